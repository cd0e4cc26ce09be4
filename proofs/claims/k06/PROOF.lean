import PyProof.Rows.All
import Wide.All
import OpenK.AllK
import Wide.FinOn
import HandS.ForMost
import HandS.Conv
import HandS.IsInst
import HandS.SortInts
import HandS.Zip
import HandS.ExcIs
import HandS.ForExc
import HandS.Flow
import HandS.CallRecv
import HandS.Walk
import PySem.Challenge.RW_roomprices_k06_whole_numbers
set_option Elab.async false
set_option linter.all false
set_option maxRecDepth 100000
set_option maxHeartbeats 4000000
/-! Roomprices: what the program computes, as plain Lean functions over lists (the mirror). -/
namespace RP
/-- a loop over range(n): turn i makes f i of the state -/
def run {σ : Type} (f : Nat → σ → σ) : Nat → σ → σ
  | 0, s => s
  | i + 1, s => f i (run f i s)
theorem run_inv {σ : Type} {f : Nat → σ → σ} (I : Nat → σ → Prop) {s : σ} (h0 : I 0 s) : ∀ n, (∀ i x, i < n → I i x → I (i + 1) (f i x)) → I n (run f n s)
  | 0, _ => h0
  | n + 1, hs => hs n _ (Nat.lt_succ_self n) (run_inv I h0 n fun i x hi hx => hs i x (Nat.lt_succ_of_lt hi) hx)
abbrev gI (xs : List Int) (i : Nat) : Int := xs.getD i 0
abbrev gN (xs : List Nat) (i : Nat) : Nat := xs.getD i 0
abbrev gO (xs : List (Option Int)) (i : Nat) : Option Int := xs.getD i none
abbrev gR (T : List (List Int)) (i : Nat) : List Int := T.getD i []
abbrev at2 (T : List (List Int)) (i j : Nat) : Int := gI (gR T i) j
theorem gD_set {α : Type} (xs : List α) (i j : Nat) (a d : α) : (xs.set i a).getD j d = if i = j ∧ i < xs.length then a else xs.getD j d := by
  rw [List.getD_eq_getElem?_getD, List.getElem?_set, List.getD_eq_getElem?_getD]
  by_cases h : i = j
  · subst h
    by_cases h2 : i < xs.length
    · simp [h2]
    · simp [h2]
  · simp [h]
theorem gD_set_self {α : Type} {xs : List α} {i : Nat} {a d : α} (h : i < xs.length) : (xs.set i a).getD i d = a := by rw [gD_set, if_pos ⟨rfl, h⟩]
theorem gD_set_ne {α : Type} {xs : List α} {i j : Nat} {a d : α} (h : i ≠ j) : (xs.set i a).getD j d = xs.getD j d := by rw [gD_set, if_neg fun q => h q.1]
theorem gD_of_get {α : Type} {xs : List α} {i : Nat} {a d : α} (h : xs[i]? = some a) : xs.getD i d = a := by rw [List.getD_eq_getElem?_getD, h]; rfl
theorem get_of_lt {α : Type} {xs : List α} {i : Nat} {d : α} (h : i < xs.length) : xs[i]? = some (xs.getD i d) := by
  rw [List.getD_eq_getElem?_getD, List.getElem?_eq_getElem h]; rfl
theorem gD_mem {α : Type} {xs : List α} {i : Nat} {d : α} (h : i < xs.length) : xs.getD i d ∈ xs := List.mem_of_getElem? (get_of_lt h)
theorem gD_rep {α : Type} {n i : Nat} {a : α} : (List.replicate n a).getD i a = a := by
  rw [List.getD_eq_getElem?_getD, List.getElem?_replicate]; split <;> rfl
theorem gD_map {α β : Type} {xs : List α} {f : α → β} {i : Nat} {d : α} {e : β} (h : i < xs.length) : (xs.map f).getD i e = f (xs.getD i d) := by
  rw [List.getD_eq_getElem?_getD, List.getElem?_map, get_of_lt (d := d) h]; rfl
theorem gD_range {n i : Nat} (h : i < n) : (List.range n).getD i 0 = i := by
  rw [List.getD_eq_getElem?_getD, List.getElem?_range h]; rfl
theorem gD_mapR {β : Type} {n i : Nat} {f : Nat → β} {e : β} (h : i < n) : ((List.range n).map f).getD i e = f i := by
  rw [gD_map (d := 0) (by simpa using h), gD_range h]
theorem nd_ix {α : Type} {l : List α} (h : l.Nodup) {i j : Nat} {a : α} (hi : l[i]? = some a) (hj : l[j]? = some a) : i = j := by
  obtain ⟨h1, e1⟩ := List.getElem?_eq_some_iff.mp hi
  obtain ⟨h2, e2⟩ := List.getElem?_eq_some_iff.mp hj
  exact (List.getElem_inj h).mp (e1.trans e2.symm)
theorem nd_gD {l : List Nat} (h : l.Nodup) {i j : Nat} (hi : i < l.length) (hj : j < l.length) (e : gN l i = gN l j) : i = j := by
  have h1 := get_of_lt (d := 0) hi
  have h2 := get_of_lt (d := 0) hj
  exact nd_ix h h1 (by rw [h2]; exact congrArg some e.symm)
theorem nodup_map_inj {α β : Type} {f : α → β} : ∀ {l : List α}, l.Nodup → (∀ a b, a ∈ l → b ∈ l → f a = f b → a = b) → (l.map f).Nodup
  | [], _, _ => List.nodup_nil
  | x :: xs, h, hf => by
    rw [List.nodup_cons] at h
    rw [List.map_cons, List.nodup_cons]
    refine ⟨fun hm => ?_, nodup_map_inj h.2 fun a b ha hb e => hf a b (List.mem_cons_of_mem _ ha) (List.mem_cons_of_mem _ hb) e⟩
    obtain ⟨y, hy, e⟩ := List.mem_map.mp hm
    have := hf y x (List.mem_cons_of_mem _ hy) List.mem_cons_self e
    rw [this] at hy
    exact h.1 hy
/-- pigeonhole: n + 1 places, n values: two alike -/
theorem pigeon {n : Nat} (f : Nat → Nat) (hf : ∀ i, i ≤ n → f i < n) : ∃ i j, i < j ∧ j ≤ n ∧ f i = f j := by
  refine Classical.byContradiction fun hc => ?_
  have inj : ∀ i j, i ≤ n → j ≤ n → f i = f j → i = j := by
    intro i j hi hj e
    rcases Nat.lt_trichotomy i j with h | h | h
    · exact absurd ⟨i, j, h, hj, e⟩ hc
    · exact h
    · exact absurd ⟨j, i, h, hi, e.symm⟩ hc
  have nd : ((List.range (n + 1)).map f).Nodup := nodup_map_inj List.nodup_range fun a b ha hb e =>
    inj a b (Nat.le_of_lt_succ (List.mem_range.mp ha)) (Nat.le_of_lt_succ (List.mem_range.mp hb)) e
  have hs : (List.range (n + 1)).map f ⊆ List.range n := by
    intro x hx
    obtain ⟨i, hi, rfl⟩ := List.mem_map.mp hx
    exact List.mem_range.mpr (hf i (Nat.le_of_lt_succ (List.mem_range.mp hi)))
  have := nd.length_le_of_subset hs
  simp at this
  omega
/-- an injection of [0, n) into itself takes every value -/
theorem inj_surj {n : Nat} (f : Nat → Nat) (hf : ∀ i, i < n → f i < n) (inj : ∀ i j, i < n → j < n → f i = f j → i = j) : ∀ y, y < n → ∃ x, x < n ∧ f x = y := by
  intro y hy
  refine Classical.byContradiction fun hc => ?_
  have nd : (y :: (List.range n).map f).Nodup := by
    rw [List.nodup_cons]
    refine ⟨fun hm => ?_, nodup_map_inj List.nodup_range fun a b ha hb e => inj a b (List.mem_range.mp ha) (List.mem_range.mp hb) e⟩
    obtain ⟨x, hx, e⟩ := List.mem_map.mp hm
    exact hc ⟨x, List.mem_range.mp hx, e⟩
  have hs : (y :: (List.range n).map f) ⊆ List.range n := by
    intro x hx
    rcases List.mem_cons.mp hx with rfl | hx
    · exact List.mem_range.mpr hy
    · obtain ⟨i, hi, rfl⟩ := List.mem_map.mp hx
      exact List.mem_range.mpr (hf i (List.mem_range.mp hi))
  have := nd.length_le_of_subset hs
  simp at this
  omega

/-! ### tables.py -/
/-- the place of the greatest of a list, by max -/
def maxL : List Int → Int
  | [] => 0
  | x :: xs => xs.foldl (fun m y => if m < y then y else m) x
def minL : List Int → Int
  | [] => 0
  | x :: xs => xs.foldl (fun m y => if y < m then y else m) x
theorem foldmin_spec : ∀ (xs : List Int) (x : Int), (xs.foldl (fun m y => if y < m then y else m) x) ∈ x :: xs ∧ ∀ y ∈ x :: xs, (xs.foldl (fun m y => if y < m then y else m) x) ≤ y
  | [], x => ⟨by simp, by simp⟩
  | z :: zs, x => by
    rw [List.foldl_cons]
    by_cases h : z < x
    · rw [if_pos h]
      obtain ⟨h1, h2⟩ := foldmin_spec zs z
      refine ⟨List.mem_cons_of_mem _ h1, fun y hy => ?_⟩
      rcases List.mem_cons.mp hy with rfl | hy
      · have := h2 z List.mem_cons_self
        omega
      · exact h2 y hy
    · rw [if_neg h]
      obtain ⟨h1, h2⟩ := foldmin_spec zs x
      refine ⟨?_, fun y hy => ?_⟩
      · rcases List.mem_cons.mp h1 with e | h1
        · rw [e]; exact List.mem_cons_self
        · exact List.mem_cons_of_mem _ (List.mem_cons_of_mem _ h1)
      · rcases List.mem_cons.mp hy with rfl | hy
        · exact h2 _ List.mem_cons_self
        · rcases List.mem_cons.mp hy with rfl | hy
          · have := h2 x List.mem_cons_self
            omega
          · exact h2 y (List.mem_cons_of_mem _ hy)
theorem foldmax_spec : ∀ (xs : List Int) (x : Int), (xs.foldl (fun m y => if m < y then y else m) x) ∈ x :: xs ∧ ∀ y ∈ x :: xs, y ≤ (xs.foldl (fun m y => if m < y then y else m) x)
  | [], x => ⟨by simp, by simp⟩
  | z :: zs, x => by
    rw [List.foldl_cons]
    by_cases h : x < z
    · rw [if_pos h]
      obtain ⟨h1, h2⟩ := foldmax_spec zs z
      refine ⟨List.mem_cons_of_mem _ h1, fun y hy => ?_⟩
      rcases List.mem_cons.mp hy with rfl | hy
      · have := h2 z List.mem_cons_self
        omega
      · exact h2 y hy
    · rw [if_neg h]
      obtain ⟨h1, h2⟩ := foldmax_spec zs x
      refine ⟨?_, fun y hy => ?_⟩
      · rcases List.mem_cons.mp h1 with e | h1
        · rw [e]; exact List.mem_cons_self
        · exact List.mem_cons_of_mem _ (List.mem_cons_of_mem _ h1)
      · rcases List.mem_cons.mp hy with rfl | hy
        · exact h2 _ List.mem_cons_self
        · rcases List.mem_cons.mp hy with rfl | hy
          · have := h2 x List.mem_cons_self
            omega
          · exact h2 y (List.mem_cons_of_mem _ hy)
theorem minL_unique {xs : List Int} {m : Int} (hm : m ∈ xs) (hle : ∀ y ∈ xs, m ≤ y) : minL xs = m := by
  cases xs with
  | nil => cases hm
  | cons x xs =>
    obtain ⟨h1, h2⟩ := foldmin_spec xs x
    exact Int.le_antisymm (h2 m hm) (hle _ h1)
theorem maxL_unique {xs : List Int} {m : Int} (hm : m ∈ xs) (hle : ∀ y ∈ xs, y ≤ m) : maxL xs = m := by
  cases xs with
  | nil => cases hm
  | cons x xs =>
    obtain ⟨h1, h2⟩ := foldmax_spec xs x
    exact Int.le_antisymm (hle _ h1) (h2 m hm)
theorem minL_spec {xs : List Int} (h : xs ≠ []) : minL xs ∈ xs ∧ ∀ y ∈ xs, minL xs ≤ y := by
  cases xs with
  | nil => exact absurd rfl h
  | cons x xs => exact foldmin_spec xs x
def leftOf (n : Nat) (row ps : List Int) : List Int := List.zipWith (fun w p => (n : Int) * w - p) row ps
def fitRow (n : Nat) (g : List Nat) (ps : List Int) (who : Nat) (row : List Int) : Bool := decide (gI (leftOf n row ps) (gN g who) = maxL (leftOf n row ps))
/-- the rows from who on: is each person's own room among the best -/
def fitRows (n : Nat) (g : List Nat) (ps : List Int) : Nat → List (List Int) → Bool
  | _, [] => true
  | who, row :: rows => if fitRow n g ps who row = true then fitRows n g ps (who + 1) rows else false
def areFit (T : List (List Int)) (rent : Int) (g : List Nat) (ps : List Int) : Bool :=
  if ps.sum = (T.length : Int) * rent then fitRows T.length g ps 0 T else false
def worth (T : List (List Int)) (g : List Nat) : Int := (List.zipWith gI T g).sum

/-! ### pricing.py -/
def ownersGo (g : List Nat) (i : Nat) (acc : List Nat) : List Nat := acc.set (gN g i) i
def owners (g : List Nat) : List Nat := run (ownersGo g) g.length (List.replicate g.length 0)
def gapRow (T : List (List Int)) (by_ : List Nat) (first : Nat) : List Int := (List.range T.length).map fun room => at2 T (gN by_ room) room - at2 T (gN by_ room) first
def gaps (T : List (List Int)) (g : List Nat) : List (List Int) := (List.range T.length).map (gapRow T (owners g))
structure BF where
  far : List Int
  ahead : List Nat
  last : Option Nat
def relax (W : List (List Int)) (first room : Nat) (s : BF) : BF :=
  if gI s.far first + at2 W first room < gI s.far room then ⟨s.far.set room (gI s.far first + at2 W first room), s.ahead.set room first, some room⟩ else s
def relaxRow (W : List (List Int)) (n first : Nat) (s : BF) : BF := run (relax W first) n s
def clr (s : BF) : BF := ⟨s.far, s.ahead, none⟩
def round (W : List (List Int)) (n : Nat) (s : BF) : BF := run (relaxRow W n) n (clr s)
def bf (W : List (List Int)) (n : Nat) : BF := run (fun _ s => round W n s) (n + 1) ⟨List.replicate n 0, List.replicate n 0, none⟩
/-- the ring, walked from cur on until last comes again -/
def ringGo (ahead : List Nat) (last : Nat) : Nat → Nat → List Nat → List Nat
  | 0, _, f => f
  | k + 1, cur, f => if gN ahead cur = last then f else ringGo ahead last k (gN ahead cur) (f ++ [gN ahead cur])
def ringLast (ahead : List Nat) (n x : Nat) : Nat := run (fun _ l => gN ahead l) n x
def ringOf (ahead : List Nat) (n x : Nat) : List Nat := ringGo ahead (ringLast ahead n x) n (ringLast ahead n x) [ringLast ahead n x]
def barring (T : List (List Int)) (g : List Nat) : Option (List Nat) :=
  match (bf (gaps T g) T.length).last with
  | none => none
  | some x => some (ringOf (bf (gaps T g) T.length).ahead T.length x)
def set2 (F : List (List Int)) (i j : Nat) (v : Int) : List (List Int) := F.set i ((gR F i).set j v)
def min2 (a b : Int) : Int := if b < a then b else a
def fwOne (middle first room : Nat) (F : List (List Int)) : List (List Int) := set2 F first room (min2 (at2 F first room) (at2 F first middle + at2 F middle room))
def fw (n : Nat) (F : List (List Int)) : List (List Int) := run (fun middle F => run (fun first F => run (fun room F => fwOne middle first room F) n F) n F) n F
def bounds (T : List (List Int)) (g : List Nat) : List (List Int) := fw T.length (gaps T g)
inductive Told where
  | priced (ps : List Int)
  | ring (people : List Nat)
def pricesOf (T : List (List Int)) (rent : Int) (g : List Nat) : List Int :=
  (gR (bounds T g) 0).map fun more => rent - (gR (bounds T g) 0).sum + (T.length : Int) * more
def told (T : List (List Int)) (rent : Int) (g : List Nat) : Told :=
  match barring T g with
  | some around => .ring (around.map (gN (owners g)))
  | none => .priced (pricesOf T rent g)
def least (T : List (List Int)) (rent : Int) (g : List Nat) (room : Nat) : Int := rent - (gR (bounds T g) room).sum
def greatest (T : List (List Int)) (rent : Int) (g : List Nat) (room : Nat) : Int := rent + ((bounds T g).map fun row => gI row room).sum

/-! ### giving.py -/
structure Grow where
  mine : List Int
  theirs : List Int
  lst : List (Option Int)
  ahead : List Nat
  done : List Nat
  here : Nat
def costOf (T : List (List Int)) (mine theirs : List Int) (now room : Nat) : Int := -(at2 T (now - 1) (room - 1)) - gI mine now - gI theirs room
/-- is this way to the room better than what is known -/
def better : Option Int → Int → Bool
  | none, _ => true
  | some x, c => decide (c < x)
def scanOne (T : List (List Int)) (mine theirs : List Int) (done : List Nat) (now here : Nat) (i : Nat) (s : List (Option Int) × List Nat) : List (Option Int) × List Nat :=
  if ¬ (i + 1) ∈ done ∧ better (gO s.1 (i + 1)) (costOf T mine theirs now (i + 1)) = true then (s.1.set (i + 1) (some (costOf T mine theirs now (i + 1))), s.2.set (i + 1) here) else s
def scan (T : List (List Int)) (mine theirs : List Int) (done : List Nat) (now here : Nat) (s : List (Option Int) × List Nat) : List (Option Int) × List Nat :=
  run (scanOne T mine theirs done now here) T.length s
/-- the rooms that aren't done -/
def openRooms (n : Nat) (done : List Nat) : List Nat := ((List.range n).map (· + 1)).filter fun r => decide (¬ r ∈ done)
def liftOne (owner done : List Nat) (b : Int) (t : Nat) (s : List Int × List Int) : List Int × List Int :=
  (s.1.set (gN owner (gN done t)) (gI s.1 (gN owner (gN done t)) + b), s.2.set (gN done t) (gI s.2 (gN done t) - b))
def lift (owner done : List Nat) (b : Int) (s : List Int × List Int) : List Int × List Int := run (liftOne owner done b) done.length s
def lowerOne (done : List Nat) (b : Int) (i : Nat) (l : List (Option Int)) : List (Option Int) :=
  if (i + 1) ∈ done then l else l.set (i + 1) (some ((gO l (i + 1)).getD 0 - b))
def lower (n : Nat) (done : List Nat) (b : Int) (l : List (Option Int)) : List (Option Int) := run (lowerOne done b) n l
def nextRooms (n : Nat) (done : List Nat) (l : List (Option Int)) : List Nat := ((List.range n).map (· + 1)).filter fun r => decide (¬ r ∈ done ∧ gO l r = some 0)
/-- one turn of the first while -/
def growOne (T : List (List Int)) (owner : List Nat) (s : Grow) : Grow :=
  let sc := scan T s.mine s.theirs s.done (gN owner s.here) s.here (s.lst, s.ahead)
  let b := minL ((openRooms T.length s.done).map fun r => (gO sc.1 r).getD 0)
  let ml := lift owner s.done b (s.mine, s.theirs)
  let l2 := lower T.length s.done b sc.1
  let h := gN (nextRooms T.length s.done l2) 0
  { mine := ml.1, theirs := ml.2, lst := l2, ahead := sc.2, done := s.done ++ [h], here := h }
def grow (T : List (List Int)) (owner : List Nat) : Nat → Grow → Grow
  | 0, s => s
  | k + 1, s => if gN owner s.here = 0 then s else grow T owner k (growOne T owner s)
def turnOver (ahead : List Nat) : Nat → Nat → List Nat → List Nat
  | 0, _, ow => ow
  | k + 1, h, ow => if h = 0 then ow else turnOver ahead k (gN ahead h) (ow.set h (gN ow (gN ahead h)))
structure Put where
  mine : List Int
  theirs : List Int
  owner : List Nat
def grow0 (n : Nat) (p : Put) : Grow := { mine := p.mine, theirs := p.theirs, lst := List.replicate (n + 1) none, ahead := List.replicate (n + 1) 0, done := [0], here := 0 }
def putIn (T : List (List Int)) (who : Nat) (p : Put) : Put :=
  let ow := p.owner.set 0 who
  let s := grow T ow (T.length + 1) (grow0 T.length p)
  { mine := s.mine, theirs := s.theirs, owner := turnOver s.ahead (T.length + 1) s.here ow }
def put0 (n : Nat) : Put := ⟨List.replicate (n + 1) 0, List.replicate (n + 1) 0, List.replicate (n + 1) 0⟩
def putAll (T : List (List Int)) : Put := run (fun i p => putIn T (i + 1) p) T.length (put0 T.length)
def foundOne (owner : List Nat) (i : Nat) (acc : List Nat) : List Nat := acc.set (gN owner (i + 1) - 1) i
def best (T : List (List Int)) : List Nat := run (foundOne (putAll T).owner) T.length (List.replicate T.length 0)
def most (T : List (List Int)) : Int := worth T (best T)
end RP
open RP in
/-! Roomprices: where prices stand that nobody envies, no ring bars (the shortest ways come to rest). -/
namespace RP
/-! ### the least over [0, n) and a start -/
def minO (f : Nat → Int) : Nat → Int → Int
  | 0, a => a
  | n + 1, a => min2 (minO f n a) (f n)
theorem min2_le_l (a b : Int) : min2 a b ≤ a := by unfold min2; split <;> omega
theorem min2_le_r (a b : Int) : min2 a b ≤ b := by unfold min2; split <;> omega
theorem min2_or (a b : Int) : min2 a b = a ∨ min2 a b = b := by unfold min2; split <;> simp
theorem minO_le_a (f : Nat → Int) : ∀ n a, minO f n a ≤ a
  | 0, _ => Int.le_refl _
  | n + 1, a => Int.le_trans (min2_le_l _ _) (minO_le_a f n a)
theorem minO_le_f (f : Nat → Int) : ∀ n a i, i < n → minO f n a ≤ f i
  | n + 1, a, i, h => by
    by_cases e : i = n
    · subst e; exact min2_le_r _ _
    · exact Int.le_trans (min2_le_l _ _) (minO_le_f f n a i (by omega))
theorem minO_or (f : Nat → Int) : ∀ n a, minO f n a = a ∨ ∃ i, i < n ∧ minO f n a = f i
  | 0, _ => .inl rfl
  | n + 1, a => by
    rcases min2_or (minO f n a) (f n) with h | h
    · rcases minO_or f n a with q | ⟨i, hi, q⟩
      · exact .inl (h.trans q)
      · exact .inr ⟨i, by omega, h.trans q⟩
    · exact .inr ⟨n, by omega, h⟩
/-- ways of at most k steps, the best that leads to v -/
def dist (w : Nat → Nat → Int) (n : Nat) : Nat → Nat → Int
  | 0, _ => 0
  | k + 1, v => minO (fun u => dist w n k u + w u v) n (dist w n k v)
section
variable {w : Nat → Nat → Int} {n : Nat} {p : Nat → Int}
theorem dist_mono1 (k v : Nat) : dist w n (k + 1) v ≤ dist w n k v := minO_le_a _ _ _
theorem dist_mono {i j : Nat} (h : i ≤ j) (v : Nat) : dist w n j v ≤ dist w n i v := by
  induction h with
  | refl => exact Int.le_refl _
  | step _ ih => exact Int.le_trans (dist_mono1 _ _) ih
theorem dist_step {k u v : Nat} (hu : u < n) : dist w n (k + 1) v ≤ dist w n k u + w u v := minO_le_f (fun u => dist w n k u + w u v) n _ u hu
/-- what falls in turn k + 1 falls by something that fell in turn k -/
theorem dist_fall {k v : Nat} (hk : dist w n (k + 2) v < dist w n (k + 1) v) : ∃ u, u < n ∧ dist w n (k + 1) u < dist w n k u ∧ dist w n (k + 2) v = dist w n (k + 1) u + w u v := by
  rcases minO_or (fun u => dist w n (k + 1) u + w u v) n (dist w n (k + 1) v) with q | ⟨u, hu, q⟩
  · have : dist w n (k + 2) v = dist w n (k + 1) v := q
    omega
  · have e : dist w n (k + 2) v = dist w n (k + 1) u + w u v := q
    refine ⟨u, hu, ?_, e⟩
    have h1 := dist_step (w := w) (n := n) (k := k) (u := u) (v := v) hu
    omega
/-- the chain of what falls, backwards -/
theorem dist_chain : ∀ (k v : Nat), v < n → dist w n (k + 1) v < dist w n k v → ∃ c : Nat → Nat, c k = v ∧ (∀ i, i ≤ k → c i < n) ∧ (∀ i, i ≤ k → dist w n (i + 1) (c i) < dist w n i (c i)) ∧
    ∀ i, i < k → dist w n (i + 2) (c (i + 1)) = dist w n (i + 1) (c i) + w (c i) (c (i + 1))
  | 0, v, hv, h => ⟨fun _ => v, rfl, fun _ _ => hv, fun i hi => (show i = 0 from Nat.le_zero.mp hi) ▸ h, fun i hi => absurd hi (Nat.not_lt_zero i)⟩
  | k + 1, v, hv, h => by
    obtain ⟨u, hu, fu, e⟩ := dist_fall h
    obtain ⟨c, ck, cn, cf, ce⟩ := dist_chain k u hu fu
    refine ⟨fun i => if i = k + 1 then v else c i, by simp, fun i hi => ?_, fun i hi => ?_, fun i hi => ?_⟩
    · by_cases q : i = k + 1
      · simp [q, hv]
      · simp only [q, if_false]; exact cn i (by omega)
    · by_cases q : i = k + 1
      · simp only [q, if_true]; exact h
      · simp only [q, if_false]; exact cf i (by omega)
    · have q : i ≠ k + 1 := by omega
      simp only [q, if_false]
      by_cases q2 : i = k
      · subst q2
        simp only [if_true, ck]
        exact e
      · have q3 : ¬ i + 1 = k + 1 := by omega
        simp only [q3, if_false]
        exact ce i (by omega)
/-- along a chain the way's worth over the price can only grow -/
theorem chain_grow (hp : ∀ u v, u < n → v < n → p v ≤ p u + w u v) {c : Nat → Nat} {k : Nat} (cn : ∀ i, i ≤ k → c i < n)
    (ce : ∀ i, i < k → dist w n (i + 2) (c (i + 1)) = dist w n (i + 1) (c i) + w (c i) (c (i + 1))) :
    ∀ (d i : Nat), i + d ≤ k → dist w n (i + 1) (c i) - p (c i) ≤ dist w n (i + d + 1) (c (i + d)) - p (c (i + d))
  | 0, i, _ => Int.le_refl _
  | d + 1, i, h => by
    have ih := chain_grow hp cn ce d i (by omega)
    have e := ce (i + d) (by omega)
    have q := hp (c (i + d)) (c (i + d + 1)) (cn _ (by omega)) (cn _ (by omega))
    have e2 : i + (d + 1) = i + d + 1 := by omega
    rw [e2]
    have e3 : i + d + 1 + 1 = i + d + 2 := by omega
    rw [e3, e]
    omega
/-- with prices at hand nothing falls in turn n + 1 -/
theorem dist_rest (hp : ∀ u v, u < n → v < n → p v ≤ p u + w u v) {v : Nat} (hv : v < n) : dist w n (n + 1) v = dist w n n v := by
  refine Classical.byContradiction fun hne => ?_
  have hlt : dist w n (n + 1) v < dist w n n v := by
    have := dist_mono1 (w := w) (n := n) n v
    omega
  obtain ⟨c, _, cn, cf, ce⟩ := dist_chain n v hv hlt
  obtain ⟨i, j, hij, hj, e⟩ := pigeon c cn
  obtain ⟨d, rfl⟩ : ∃ d, j = i + d := ⟨j - i, by omega⟩
  have g := chain_grow hp cn ce d i hj
  rw [← e] at g
  have f := cf (i + d) hj
  rw [← e] at f
  have m := dist_mono (w := w) (n := n) (i := i + 1) (j := i + d) (by omega) (c i)
  omega
end

/-! ### the program's own rounds -/
/-- W is n rows of n -/
def IsSq (n : Nat) (W : List (List Int)) : Prop := W.length = n ∧ ∀ r ∈ W, r.length = n
theorem IsSq.row {n : Nat} {W : List (List Int)} (h : IsSq n W) {i : Nat} (hi : i < n) : (gR W i).length = n := h.2 _ (gD_mem (by rw [h.1]; exact hi))
structure BFOk (n : Nat) (s : BF) : Prop where
  far : s.far.length = n
  ahead : s.ahead.length = n
  lt : ∀ i, i < n → gN s.ahead i < n
  last : ∀ x, s.last = some x → x < n
theorem relax_ok {W : List (List Int)} {n first room : Nat} {s : BF} (h : BFOk n s) (hf : first < n) (hr : room < n) : BFOk n (relax W first room s) := by
  unfold relax
  split
  · refine ⟨by rw [List.length_set]; exact h.far, by rw [List.length_set]; exact h.ahead, fun i hi => ?_, fun x e => ?_⟩
    · show (s.ahead.set room first).getD i 0 < n
      rw [gD_set]
      split
      · exact hf
      · exact h.lt i hi
    · cases e; exact hr
  · exact h
theorem relaxRow_ok {W : List (List Int)} {n m first : Nat} {s : BF} (h : BFOk n s) (hf : first < n) (hm : m ≤ n) : BFOk n (run (relax W first) m s) :=
  run_inv (fun _ s => BFOk n s) h m fun i x hi hx => relax_ok hx hf (by omega)
theorem clr_ok {n : Nat} {s : BF} (h : BFOk n s) : BFOk n (clr s) := ⟨h.far, h.ahead, h.lt, fun x e => by cases e⟩
theorem round_ok {W : List (List Int)} {n m : Nat} {s : BF} (h : BFOk n s) (hm : m ≤ n) : BFOk n (run (relaxRow W n) m (clr s)) :=
  run_inv (f := relaxRow W n) (fun _ s => BFOk n s) (clr_ok h) m fun i x hi hx => relaxRow_ok hx (by omega) (Nat.le_refl _)
theorem bf0_ok {n : Nat} : BFOk n ⟨List.replicate n 0, List.replicate n 0, none⟩ :=
  ⟨by simp, by simp, fun i hi => by rw [show gN _ i = 0 from gD_rep]; omega, fun x e => by cases e⟩
theorem bfrun_ok {W : List (List Int)} {n k : Nat} : BFOk n (run (fun _ s => round W n s) k ⟨List.replicate n 0, List.replicate n 0, none⟩) :=
  run_inv (fun _ s => BFOk n s) bf0_ok k fun i x hi hx => round_ok hx (Nat.le_refl _)
theorem bf_ok {W : List (List Int)} {n : Nat} : BFOk n (bf W n) := bfrun_ok

section
variable {W : List (List Int)} {n : Nat} {p : Nat → Int}
abbrev wOf (W : List (List Int)) : Nat → Nat → Int := at2 W
/-- never below where it comes to rest -/
def Above (W : List (List Int)) (n : Nat) (s : BF) : Prop := ∀ v, v < n → dist (wOf W) n n v ≤ gI s.far v
theorem relax_far {first room : Nat} {s : BF} (hl : s.far.length = n) (hr : room < n) (v : Nat) :
    gI (relax W first room s).far v = if v = room then min2 (gI s.far room) (gI s.far first + at2 W first room) else gI s.far v := by
  unfold relax min2
  by_cases c : gI s.far first + at2 W first room < gI s.far room
  · rw [if_pos c, if_pos c]
    show (s.far.set room _).getD v 0 = _
    rw [gD_set]
    by_cases e : v = room
    · rw [if_pos ⟨e.symm, by omega⟩, if_pos e]
    · rw [if_neg (fun q => e q.1.symm), if_neg e]
  · rw [if_neg c, if_neg c]
    by_cases e : v = room
    · rw [if_pos e, e]
    · rw [if_neg e]
theorem relax_above (hp : ∀ u v, u < n → v < n → p v ≤ p u + wOf W u v) {first room : Nat} {s : BF} (h : BFOk n s) (a : Above W n s) (hf : first < n) (hr : room < n) : Above W n (relax W first room s) := by
  intro v hv
  rw [relax_far h.far hr]
  by_cases e : v = room
  · subst e
    rw [if_pos rfl]
    have e1 := dist_rest hp hv
    have e2 := dist_step (w := wOf W) (n := n) (k := n) (v := v) hf
    have e3 := a first hf
    have e4 := a v hv
    have e5 : wOf W first v = at2 W first v := rfl
    rcases min2_or (gI s.far v) (gI s.far first + at2 W first v) with q | q <;> rw [q] <;> omega
  · rw [if_neg e]; exact a v hv
theorem relax_le {first room : Nat} {s : BF} (h : BFOk n s) (hr : room < n) (v : Nat) : gI (relax W first room s).far v ≤ gI s.far v := by
  rw [relax_far h.far hr]
  split
  · rename_i e; subst e; exact min2_le_l _ _
  · exact Int.le_refl _
/-- within a row: k turns of it -/
theorem row_le {first : Nat} {s : BF} (h : BFOk n s) (hf : first < n) : ∀ m, m ≤ n → (∀ v, gI (run (relax W first) m s).far v ≤ gI s.far v) ∧
    ∀ v d, v < m → gI s.far first ≤ d → gI (run (relax W first) m s).far v ≤ d + at2 W first v
  | 0, _ => ⟨fun _ => Int.le_refl _, fun v d hv => absurd hv (by omega)⟩
  | m + 1, hm => by
    obtain ⟨h1, h2⟩ := row_le h hf m (by omega)
    have ok := relaxRow_ok (W := W) (m := m) h hf (by omega)
    refine ⟨fun v => Int.le_trans (relax_le ok (by omega) v) (h1 v), fun v d hv hd => ?_⟩
    by_cases e : v = m
    · subst e
      show gI (relax W first v (run (relax W first) v s)).far v ≤ _
      rw [relax_far ok.far (by omega), if_pos rfl]
      have q1 := min2_le_r (gI (run (relax W first) v s).far v) (gI (run (relax W first) v s).far first + at2 W first v)
      have q2 := h1 first
      omega
    · exact Int.le_trans (relax_le ok (by omega) v) (h2 v d (by omega) hd)
theorem round_le {s : BF} (h : BFOk n s) : ∀ m, m ≤ n → (∀ v, gI (run (relaxRow W n) m (clr s)).far v ≤ gI s.far v) ∧
    ∀ u v, u < m → v < n → gI (run (relaxRow W n) m (clr s)).far v ≤ gI s.far u + at2 W u v
  | 0, _ => ⟨fun _ => Int.le_refl _, fun u v hu => absurd hu (by omega)⟩
  | m + 1, hm => by
    obtain ⟨h1, h2⟩ := round_le h m (by omega)
    have ok := round_ok (W := W) (m := m) h (by omega)
    obtain ⟨r1, r2⟩ := row_le (W := W) (first := m) ok (by omega) n (Nat.le_refl _)
    refine ⟨fun v => Int.le_trans (r1 v) (h1 v), fun u v hu hv => ?_⟩
    by_cases e : u = m
    · subst e
      exact r2 v _ hv (h1 u)
    · exact Int.le_trans (r1 v) (h2 u v (by omega) hv)
theorem row_above (hp : ∀ u v, u < n → v < n → p v ≤ p u + wOf W u v) {first m : Nat} {s : BF} (h : BFOk n s) (a : Above W n s) (hf : first < n) (hm : m ≤ n) : Above W n (run (relax W first) m s) :=
  (run_inv (fun _ s => BFOk n s ∧ Above W n s) ⟨h, a⟩ m fun i x hi hx => ⟨relax_ok hx.1 hf (by omega), relax_above hp hx.1 hx.2 hf (by omega)⟩).2
theorem round_above (hp : ∀ u v, u < n → v < n → p v ≤ p u + wOf W u v) {s : BF} (h : BFOk n s) (a : Above W n s) : Above W n (round W n s) :=
  (run_inv (f := relaxRow W n) (s := clr s) (fun _ s => BFOk n s ∧ Above W n s) ⟨clr_ok h, a⟩ n fun i x hi hx => ⟨relaxRow_ok hx.1 (by omega) (Nat.le_refl _), row_above hp hx.1 hx.2 (by omega) (Nat.le_refl _)⟩).2
theorem dist_le0 (hp : True) (k v : Nat) : dist (wOf W) n k v ≤ 0 := dist_mono (w := wOf W) (n := n) (i := 0) (j := k) (Nat.zero_le _) v
/-- behind k rounds it is at most the best way of k steps, never below the rest -/
theorem rounds (hp : ∀ u v, u < n → v < n → p v ≤ p u + wOf W u v) : ∀ k, BFOk n (run (fun _ s => round W n s) k ⟨List.replicate n 0, List.replicate n 0, none⟩) ∧
    Above W n (run (fun _ s => round W n s) k ⟨List.replicate n 0, List.replicate n 0, none⟩) ∧ ∀ v, v < n → gI (run (fun _ s => round W n s) k ⟨List.replicate n 0, List.replicate n 0, none⟩).far v ≤ dist (wOf W) n k v
  | 0 => ⟨bf0_ok, fun v hv => by
      show _ ≤ gI (List.replicate n 0) v
      rw [show gI (List.replicate n 0) v = 0 from gD_rep]
      exact dist_le0 trivial n v, fun v hv => by
      show gI (List.replicate n 0) v ≤ _
      rw [show gI (List.replicate n 0) v = 0 from gD_rep]
      exact Int.le_refl 0⟩
  | k + 1 => by
    obtain ⟨ok, ab, le⟩ := rounds hp k
    obtain ⟨h1, h2⟩ := round_le (W := W) ok n (Nat.le_refl _)
    refine ⟨round_ok ok (Nat.le_refl _), round_above hp ok ab, fun v hv => ?_⟩
    show gI (run (relaxRow W n) n (clr (run (fun _ s => round W n s) k ⟨List.replicate n 0, List.replicate n 0, none⟩))).far v ≤ minO (fun u => dist (wOf W) n k u + wOf W u v) n (dist (wOf W) n k v)
    rcases minO_or (fun u => dist (wOf W) n k u + wOf W u v) n (dist (wOf W) n k v) with q | ⟨u, hu, q⟩
    · rw [q]; exact Int.le_trans (h1 v) (le v hv)
    · rw [q]
      have a1 := h2 u v hu hv
      have a2 := le u hu
      show _ ≤ dist (wOf W) n k u + at2 W u v
      omega
/-- at rest a round changes nothing -/
theorem round_still {s : BF} (hr : ∀ u v, u < n → v < n → gI s.far v ≤ gI s.far u + at2 W u v) : (round W n s).last = none := by
  have one : ∀ t : BF, t.far = s.far → t.last = none → ∀ u v, u < n → v < n → relax W u v t = t := by
    intro t e1 e2 u v hu hv
    unfold relax
    have := hr u v hu hv
    rw [e1, if_neg (by omega)]
  have row : ∀ t : BF, t.far = s.far → t.last = none → ∀ u m, u < n → m ≤ n → run (relax W u) m t = t := by
    intro t e1 e2 u m hu hm
    exact run_inv (f := relax W u) (fun _ x => x = t) rfl m fun i x hi hx => by subst hx; exact one _ e1 e2 u i hu (by omega)
  have all := run_inv (f := relaxRow W n) (s := (clr s)) (fun _ x => x = (clr s)) rfl n fun i x hi hx => by subst hx; exact row (clr s) rfl rfl i n hi (Nat.le_refl _)
  unfold round
  rw [all]
  rfl
/-- where there are prices that fit, no ring is found -/
theorem bf_none (hp : ∀ u v, u < n → v < n → p v ≤ p u + wOf W u v) : (bf W n).last = none := by
  obtain ⟨ok, ab, le⟩ := rounds hp n
  show (round W n (run (fun _ s => round W n s) n ⟨List.replicate n 0, List.replicate n 0, none⟩)).last = none
  refine round_still fun u v hu hv => ?_
  have a1 := le v hv
  have a2 := ab u hu
  have a3 := dist_rest hp hv
  have a4 := dist_step (w := wOf W) (n := n) (k := n) (v := v) hu
  have a5 : wOf W u v = at2 W u v := rfl
  omega
end

/-! ### a ring is walked round -/
section
variable {ahead : List Nat} {n : Nat}
/-- i steps from x -/
def stepN (ahead : List Nat) : Nat → Nat → Nat
  | 0, x => x
  | i + 1, x => gN ahead (stepN ahead i x)
theorem stepN_lt (h : ∀ i, i < n → gN ahead i < n) {x : Nat} (hx : x < n) : ∀ i, stepN ahead i x < n
  | 0 => hx
  | i + 1 => h _ (stepN_lt h hx i)
theorem stepN_add (x : Nat) (i : Nat) : ∀ j, stepN ahead (i + j) x = stepN ahead j (stepN ahead i x)
  | 0 => rfl
  | j + 1 => by
    show gN ahead (stepN ahead (i + j) x) = gN ahead (stepN ahead j (stepN ahead i x))
    rw [stepN_add x i j]
theorem ringLast_eq (x : Nat) : ∀ m, run (fun _ l => gN ahead l) m x = stepN ahead m x
  | 0 => rfl
  | m + 1 => by
    show gN ahead (run (fun _ l => gN ahead l) m x) = gN ahead (stepN ahead m x)
    rw [ringLast_eq x m]
/-- behind n steps one stands on a ring of at most n -/
theorem ring_back (h : ∀ i, i < n → gN ahead i < n) {x : Nat} (hx : x < n) : ∃ d, 0 < d ∧ d ≤ n ∧ stepN ahead d (ringLast ahead n x) = ringLast ahead n x := by
  obtain ⟨i, j, hij, hj, e⟩ := pigeon (fun i => stepN ahead i x) fun i _ => stepN_lt h hx i
  refine ⟨j - i, by omega, by omega, ?_⟩
  unfold ringLast
  rw [ringLast_eq]
  have e1 : stepN ahead n x = stepN ahead (n - j) (stepN ahead j x) := by rw [← stepN_add]; congr 1; omega
  have e2 : stepN ahead (n - j) (stepN ahead i x) = stepN ahead (i + (n - j)) x := (stepN_add x i (n - j)).symm
  have e3 : stepN ahead n x = stepN ahead (i + (n - j)) x := by
    rw [e1]
    show stepN ahead (n - j) (stepN ahead j x) = _
    rw [← show stepN ahead i x = stepN ahead j x from e]
    exact e2
  rw [← stepN_add, e3]
  have e4 : stepN ahead (i + (n - j) + (j - i)) x = stepN ahead n x := by congr 1; omega
  rw [← e3, show n + (j - i) = j + (n - j) + (j - i) by omega]
  rw [show j + (n - j) + (j - i) = j + ((n - j) + (j - i)) by omega, stepN_add, ← show stepN ahead i x = stepN ahead j x from e, ← stepN_add]
  congr 1
  omega
end
end RP
/-! Roomprices: the giving that put_in builds bears prices (people and rooms from 1 on). -/
namespace RP
abbrev cc (T : List (List Int)) (i j : Nat) : Int := -(at2 T (i - 1) (j - 1))
theorem cost_eq (T : List (List Int)) (m th : List Int) (i j : Nat) : costOf T m th i j = cc T i j - gI m i - gI th j := rfl

theorem mem_openRooms {n : Nat} {done : List Nat} {r : Nat} : r ∈ openRooms n done ↔ 1 ≤ r ∧ r ≤ n ∧ ¬ r ∈ done := by
  unfold openRooms
  rw [List.mem_filter, List.mem_map]
  constructor
  · rintro ⟨⟨i, hi, rfl⟩, h⟩
    exact ⟨by omega, by have := List.mem_range.mp hi; omega, of_decide_eq_true h⟩
  · rintro ⟨h1, h2, h3⟩
    exact ⟨⟨r - 1, List.mem_range.mpr (by omega), by omega⟩, decide_eq_true h3⟩
theorem mem_nextRooms {n : Nat} {done : List Nat} {l : List (Option Int)} {r : Nat} : r ∈ nextRooms n done l ↔ 1 ≤ r ∧ r ≤ n ∧ ¬ r ∈ done ∧ gO l r = some 0 := by
  unfold nextRooms
  rw [List.mem_filter, List.mem_map]
  constructor
  · rintro ⟨⟨i, hi, rfl⟩, h⟩
    have h' := of_decide_eq_true h
    exact ⟨by omega, by have := List.mem_range.mp hi; omega, h'.1, h'.2⟩
  · rintro ⟨h1, h2, h3, h4⟩
    exact ⟨⟨r - 1, List.mem_range.mpr (by omega), by omega⟩, decide_eq_true ⟨h3, h4⟩⟩

section
variable {T : List (List Int)} {m th : List Int} {done ow : List Nat} {now here : Nat} {b : Int}
/-- behind i turns of the search over the rooms -/
theorem scan_upto {l : List (Option Int)} {a : List Nat} {n : Nat} (hl : l.length = n + 1) (ha : a.length = n + 1) : ∀ i, i ≤ n →
    (run (scanOne T m th done now here) i (l, a)).1.length = n + 1 ∧ (run (scanOne T m th done now here) i (l, a)).2.length = n + 1 ∧
    ∀ j, (gO (run (scanOne T m th done now here) i (l, a)).1 j = if 1 ≤ j ∧ j ≤ i ∧ ¬ j ∈ done ∧ better (gO l j) (costOf T m th now j) = true then some (costOf T m th now j) else gO l j) ∧
      (gN (run (scanOne T m th done now here) i (l, a)).2 j = if 1 ≤ j ∧ j ≤ i ∧ ¬ j ∈ done ∧ better (gO l j) (costOf T m th now j) = true then here else gN a j)
  | 0, _ => ⟨hl, ha, fun j => ⟨by rw [if_neg (by omega)]; rfl, by rw [if_neg (by omega)]; rfl⟩⟩
  | i + 1, hi => by
    obtain ⟨h1, h2, h3⟩ := scan_upto hl ha i (by omega)
    show (scanOne T m th done now here i (run (scanOne T m th done now here) i (l, a))).1.length = n + 1 ∧ (scanOne T m th done now here i (run (scanOne T m th done now here) i (l, a))).2.length = n + 1 ∧ ∀ j, (gO (scanOne T m th done now here i (run (scanOne T m th done now here) i (l, a))).1 j = _) ∧ (gN (scanOne T m th done now here i (run (scanOne T m th done now here) i (l, a))).2 j = _)
    have hold := (h3 (i + 1)).1
    rw [if_neg (by omega)] at hold
    generalize run (scanOne T m th done now here) i (l, a) = r at h1 h2 h3 hold ⊢
    unfold scanOne
    rw [hold]
    by_cases c : ¬ (i + 1) ∈ done ∧ better (gO l (i + 1)) (costOf T m th now (i + 1)) = true
    · rw [if_pos c]
      refine ⟨by rw [List.length_set]; exact h1, by rw [List.length_set]; exact h2, fun j => ?_⟩
      by_cases e : j = i + 1
      · subst e
        constructor
        · show (List.set _ _ _).getD _ _ = _
          rw [gD_set_self (by omega), if_pos ⟨by omega, Nat.le_refl _, c⟩]
        · show (List.set _ _ _).getD _ _ = _
          rw [gD_set_self (by omega), if_pos ⟨by omega, Nat.le_refl _, c⟩]
      · have k1 : (1 ≤ j ∧ j ≤ i + 1 ∧ ¬ j ∈ done ∧ better (gO l j) (costOf T m th now j) = true) ↔ (1 ≤ j ∧ j ≤ i ∧ ¬ j ∈ done ∧ better (gO l j) (costOf T m th now j) = true) := ⟨fun q => ⟨q.1, by omega, q.2.2⟩, fun q => ⟨q.1, by omega, q.2.2⟩⟩
        constructor
        · show (List.set _ _ _).getD _ _ = _
          rw [gD_set_ne (fun q => e q.symm)]
          simp only [k1]
          exact (h3 j).1
        · show (List.set _ _ _).getD _ _ = _
          rw [gD_set_ne (fun q => e q.symm)]
          simp only [k1]
          exact (h3 j).2
    · rw [if_neg c]
      refine ⟨h1, h2, fun j => ?_⟩
      have k1 : (1 ≤ j ∧ j ≤ i + 1 ∧ ¬ j ∈ done ∧ better (gO l j) (costOf T m th now j) = true) ↔ (1 ≤ j ∧ j ≤ i ∧ ¬ j ∈ done ∧ better (gO l j) (costOf T m th now j) = true) :=
        ⟨fun q => ⟨q.1, by
          by_cases e : j = i + 1
          · subst e; exact absurd q.2.2 c
          · omega, q.2.2⟩, fun q => ⟨q.1, by omega, q.2.2⟩⟩
      simp only [k1]
      exact h3 j
/-- behind t turns of the lifting -/
theorem lift_upto {n : Nat} (hm : m.length = n + 1) (ht : th.length = n + 1) (hd : ∀ d ∈ done, d ≤ n) (ho : ∀ d ∈ done, gN ow d ≤ n) (nd : done.Nodup) (inj : ∀ d e, d ∈ done → e ∈ done → gN ow d = gN ow e → d = e) :
    ∀ t, t ≤ done.length → (run (liftOne ow done b) t (m, th)).1.length = n + 1 ∧ (run (liftOne ow done b) t (m, th)).2.length = n + 1 ∧
      (∀ i, gI (run (liftOne ow done b) t (m, th)).1 i = if ∃ d ∈ done.take t, gN ow d = i then gI m i + b else gI m i) ∧
      ∀ j, gI (run (liftOne ow done b) t (m, th)).2 j = if j ∈ done.take t then gI th j - b else gI th j
  | 0, _ => ⟨hm, ht, fun i => by rw [if_neg (by simp)]; rfl, fun j => by rw [if_neg (by simp)]; rfl⟩
  | t + 1, hlt => by
    obtain ⟨h1, h2, h3, h4⟩ := lift_upto hm ht hd ho nd inj t (by omega)
    have hget : done[t]? = some (gN done t) := get_of_lt (by omega)
    have hmem : gN done t ∈ done := List.mem_of_getElem? hget
    have tk : done.take (t + 1) = done.take t ++ [gN done t] := by rw [List.take_add_one, hget]; rfl
    have fresh : ¬ gN done t ∈ done.take t := fun hm => by
      obtain ⟨q, hq⟩ := List.mem_iff_getElem?.mp hm
      rw [List.getElem?_take] at hq
      split at hq
      · have := nd_ix nd hq hget
        omega
      · cases hq
    have freshO : ¬ ∃ d ∈ done.take t, gN ow d = gN ow (gN done t) := fun ⟨d, hdm, e⟩ => by
      have := inj d _ (List.mem_of_mem_take hdm) hmem e
      rw [this] at hdm
      exact fresh hdm
    show (liftOne ow done b t (run (liftOne ow done b) t (m, th))).1.length = n + 1 ∧ (liftOne ow done b t (run (liftOne ow done b) t (m, th))).2.length = n + 1 ∧ (∀ i, gI (liftOne ow done b t (run (liftOne ow done b) t (m, th))).1 i = _) ∧ ∀ j, gI (liftOne ow done b t (run (liftOne ow done b) t (m, th))).2 j = _
    generalize run (liftOne ow done b) t (m, th) = r at h1 h2 h3 h4 ⊢
    unfold liftOne
    refine ⟨by rw [List.length_set]; exact h1, by rw [List.length_set]; exact h2, fun i => ?_, fun j => ?_⟩
    · show (List.set _ _ _).getD _ _ = _
      by_cases e : gN ow (gN done t) = i
      · subst e
        rw [gD_set_self (by rw [h1]; have := ho _ hmem; omega), h3, if_neg freshO, if_pos ⟨_, by rw [tk]; exact List.mem_append_right _ (List.mem_singleton.mpr rfl), rfl⟩]
      · rw [gD_set_ne e]
        have k1 : (∃ d ∈ done.take (t + 1), gN ow d = i) ↔ (∃ d ∈ done.take t, gN ow d = i) := by
          constructor
          · rintro ⟨d, hd, q⟩
            rw [tk] at hd
            rcases List.mem_append.mp hd with hd | hd
            · exact ⟨d, hd, q⟩
            · rw [List.mem_singleton.mp hd] at q; exact absurd q e
          · rintro ⟨d, hd, q⟩
            exact ⟨d, by rw [tk]; exact List.mem_append_left _ hd, q⟩
        simp only [k1]
        exact h3 i
    · show (List.set _ _ _).getD _ _ = _
      by_cases e : gN done t = j
      · subst e
        rw [gD_set_self (by rw [h2]; have := hd _ hmem; omega), h4, if_neg fresh, if_pos (by rw [tk]; exact List.mem_append_right _ (List.mem_singleton.mpr rfl))]
      · rw [gD_set_ne e]
        have k1 : (j ∈ done.take (t + 1)) ↔ (j ∈ done.take t) := by
          rw [tk, List.mem_append, List.mem_singleton]
          exact ⟨fun q => q.elim id fun q => absurd q.symm e, .inl⟩
        simp only [k1]
        exact h4 j
theorem lower_upto {l : List (Option Int)} {n : Nat} (hl : l.length = n + 1) : ∀ i, i ≤ n → (run (lowerOne done b) i l).length = n + 1 ∧
    ∀ j, gO (run (lowerOne done b) i l) j = if 1 ≤ j ∧ j ≤ i ∧ ¬ j ∈ done then some ((gO l j).getD 0 - b) else gO l j
  | 0, _ => ⟨hl, fun j => by rw [if_neg (by omega)]; rfl⟩
  | i + 1, hi => by
    obtain ⟨h1, h2⟩ := lower_upto hl i (by omega)
    have hold := h2 (i + 1)
    rw [if_neg (by omega)] at hold
    show (lowerOne done b i (run (lowerOne done b) i l)).length = n + 1 ∧ ∀ j, gO (lowerOne done b i (run (lowerOne done b) i l)) j = _
    generalize run (lowerOne done b) i l = r at h1 h2 hold ⊢
    unfold lowerOne
    rw [hold]
    by_cases c : (i + 1) ∈ done
    · rw [if_pos c]
      refine ⟨h1, fun j => ?_⟩
      have k1 : (1 ≤ j ∧ j ≤ i + 1 ∧ ¬ j ∈ done) ↔ (1 ≤ j ∧ j ≤ i ∧ ¬ j ∈ done) := ⟨fun q => ⟨q.1, by
        by_cases e : j = i + 1
        · subst e; exact absurd c q.2.2
        · omega, q.2.2⟩, fun q => ⟨q.1, by omega, q.2.2⟩⟩
      simp only [k1]
      exact h2 j
    · rw [if_neg c]
      refine ⟨by rw [List.length_set]; exact h1, fun j => ?_⟩
      show (List.set _ _ _).getD _ _ = _
      by_cases e : j = i + 1
      · subst e
        rw [gD_set_self (by omega), if_pos ⟨by omega, Nat.le_refl _, c⟩]
      · rw [gD_set_ne (fun q => e q.symm)]
        have k1 : (1 ≤ j ∧ j ≤ i + 1 ∧ ¬ j ∈ done) ↔ (1 ≤ j ∧ j ≤ i ∧ ¬ j ∈ done) := ⟨fun q => ⟨q.1, by omega, q.2.2⟩, fun q => ⟨q.1, by omega, q.2.2⟩⟩
        simp only [k1]
        exact h2 j
end

/-! ### the invariants -/
structure OInv (T : List (List Int)) (k : Nat) (p : Put) : Prop where
  lm : p.mine.length = T.length + 1
  lt : p.theirs.length = T.length + 1
  lo : p.owner.length = T.length + 1
  le : ∀ j, 1 ≤ j → j ≤ T.length → gN p.owner j ≤ k
  inj : ∀ i j, 1 ≤ i → i ≤ T.length → 1 ≤ j → j ≤ T.length → gN p.owner i ≠ 0 → gN p.owner i = gN p.owner j → i = j
  has : ∀ i, 1 ≤ i → i ≤ k → ∃ j, 1 ≤ j ∧ j ≤ T.length ∧ gN p.owner j = i
  feas : ∀ i j, 1 ≤ i → i ≤ k → 1 ≤ j → j ≤ T.length → gI p.mine i + gI p.theirs j ≤ cc T i j
  tight : ∀ j, 1 ≤ j → j ≤ T.length → gN p.owner j ≠ 0 → gI p.mine (gN p.owner j) + gI p.theirs j = cc T (gN p.owner j) j
structure GInv (T : List (List Int)) (k : Nat) (ow : List Nat) (s : Grow) (pre : List Nat) : Prop where
  kn : k + 1 ≤ T.length
  lm : s.mine.length = T.length + 1
  lt : s.theirs.length = T.length + 1
  lo : ow.length = T.length + 1
  ll : s.lst.length = T.length + 1
  la : s.ahead.length = T.length + 1
  o0 : gN ow 0 = k + 1
  le : ∀ j, 1 ≤ j → j ≤ T.length → gN ow j ≤ k
  inj : ∀ i j, i ≤ T.length → j ≤ T.length → gN ow i ≠ 0 → gN ow i = gN ow j → i = j
  has : ∀ i, 1 ≤ i → i ≤ k → ∃ j, 1 ≤ j ∧ j ≤ T.length ∧ gN ow j = i
  dn : s.done = pre ++ [s.here]
  nd : s.done.Nodup
  dle : ∀ d ∈ s.done, d ≤ T.length
  hd : s.done[0]? = some 0
  own : ∀ d ∈ pre, gN ow d ≠ 0
  feas : ∀ i j, 1 ≤ i → i ≤ k → 1 ≤ j → j ≤ T.length → gI s.mine i + gI s.theirs j ≤ cc T i j
  tight : ∀ j, 1 ≤ j → j ≤ T.length → gN ow j ≠ 0 → gI s.mine (gN ow j) + gI s.theirs j = cc T (gN ow j) j
  feasW : pre ≠ [] → ∀ j, 1 ≤ j → j ≤ T.length → gI s.mine (k + 1) + gI s.theirs j ≤ cc T (k + 1) j
  chain : ∀ t d, 1 ≤ t → s.done[t]? = some d → ∃ q, q < t ∧ s.done[q]? = some (gN s.ahead d) ∧ gI s.mine (gN ow (gN s.ahead d)) + gI s.theirs d = cc T (gN ow (gN s.ahead d)) d
  lst0 : pre = [] → ∀ j, 1 ≤ j → j ≤ T.length → gO s.lst j = none
  lst : pre ≠ [] → ∀ j, 1 ≤ j → j ≤ T.length → ¬ j ∈ s.done → ∃ x, gO s.lst j = some x ∧ 0 ≤ x ∧ gN s.ahead j ∈ pre ∧
    x = cc T (gN ow (gN s.ahead j)) j - gI s.mine (gN ow (gN s.ahead j)) - gI s.theirs j ∧ ∀ d ∈ pre, x ≤ cc T (gN ow d) j - gI s.mine (gN ow d) - gI s.theirs j
section
variable {T : List (List Int)} {k : Nat} {ow : List Nat} {s : Grow} {pre : List Nat}
theorem GInv.zero (G : GInv T k ow s pre) : 0 ∈ s.done := List.mem_of_getElem? G.hd
theorem GInv.here_mem (G : GInv T k ow s pre) : s.here ∈ s.done := by rw [G.dn]; exact List.mem_append_right _ (List.mem_singleton.mpr rfl)
theorem GInv.hereLe (G : GInv T k ow s pre) : s.here ≤ T.length := G.dle _ G.here_mem
theorem GInv.pre_nil (G : GInv T k ow s pre) : pre = [] ↔ s.here = 0 := by
  constructor
  · intro e
    have h := G.hd
    rw [G.dn, e] at h
    exact Option.some.inj h
  · intro e
    cases hp : pre with
    | nil => rfl
    | cons x xs =>
      have h := G.hd
      rw [G.dn, hp] at h
      have hx : x = 0 := Option.some.inj h
      have nd := G.nd
      rw [G.dn, hp, hx, e] at nd
      simp at nd
theorem GInv.ownD (G : GInv T k ow s pre) (ho : gN ow s.here ≠ 0) : ∀ d ∈ s.done, gN ow d ≠ 0 := by
  intro d hd
  rw [G.dn] at hd
  rcases List.mem_append.mp hd with h | h
  · exact G.own d h
  · rw [List.mem_singleton.mp h]; exact ho
theorem GInv.owLe (G : GInv T k ow s pre) {j : Nat} (hj : j ≤ T.length) : gN ow j ≤ k + 1 := by
  by_cases e : j = 0
  · rw [e, G.o0]; exact Nat.le_refl _
  · have := G.le j (by omega) hj
    omega
theorem GInv.owK (G : GInv T k ow s pre) {j : Nat} (h1 : 1 ≤ j) (hj : j ≤ T.length) : gN ow j ≤ k := G.le j h1 hj
theorem GInv.doneLen (G : GInv T k ow s pre) : s.done.length ≤ T.length + 1 := by
  have h : s.done ⊆ List.range (T.length + 1) := fun d hd => List.mem_range.mpr (by have := G.dle d hd; omega)
  have := G.nd.length_le_of_subset h
  simpa using this
/-- while the room at hand is owned some room isn't done -/
theorem GInv.open_ (G : GInv T k ow s pre) (ho : gN ow s.here ≠ 0) : s.done.length ≤ T.length ∧ openRooms T.length s.done ≠ [] := by
  have hlen : s.done.length ≤ k + 1 := by
    have nd : (s.done.map (gN ow)).Nodup := nodup_map_inj G.nd fun a b ha hb e => G.inj a b (G.dle a ha) (G.dle b hb) (G.ownD ho a ha) e
    have hs : s.done.map (gN ow) ⊆ (List.range (k + 1)).map (· + 1) := by
      intro x hx
      obtain ⟨d, hd, rfl⟩ := List.mem_map.mp hx
      have h1 := G.ownD ho d hd
      have h2 := G.owLe (G.dle d hd)
      exact List.mem_map.mpr ⟨gN ow d - 1, List.mem_range.mpr (by omega), by omega⟩
    have := nd.length_le_of_subset hs
    simpa using this
  have kn := G.kn
  refine ⟨by omega, fun e => ?_⟩
  have hs : List.range (T.length + 1) ⊆ s.done := by
    intro j hj
    have hj := List.mem_range.mp hj
    refine Classical.byContradiction fun hn => ?_
    by_cases e0 : j = 0
    · rw [e0] at hn; exact hn G.zero
    · have : j ∈ openRooms T.length s.done := mem_openRooms.mpr ⟨by omega, by omega, hn⟩
      rw [e] at this
      cases this
  have := List.nodup_range.length_le_of_subset hs
  simp at this
  omega
/-- what the search finds -/
theorem GInv.scanned (G : GInv T k ow s pre) (ho : gN ow s.here ≠ 0) {j : Nat} (h1 : 1 ≤ j) (h2 : j ≤ T.length) (hj : ¬ j ∈ s.done) :
    ∃ x, gO (scan T s.mine s.theirs s.done (gN ow s.here) s.here (s.lst, s.ahead)).1 j = some x ∧ (pre ≠ [] → 0 ≤ x) ∧ gN (scan T s.mine s.theirs s.done (gN ow s.here) s.here (s.lst, s.ahead)).2 j ∈ s.done ∧
      x = cc T (gN ow (gN (scan T s.mine s.theirs s.done (gN ow s.here) s.here (s.lst, s.ahead)).2 j)) j - gI s.mine (gN ow (gN (scan T s.mine s.theirs s.done (gN ow s.here) s.here (s.lst, s.ahead)).2 j)) - gI s.theirs j ∧
      ∀ d ∈ s.done, x ≤ cc T (gN ow d) j - gI s.mine (gN ow d) - gI s.theirs j := by
  obtain ⟨_, _, h3⟩ := scan_upto (T := T) (m := s.mine) (th := s.theirs) (done := s.done) (now := gN ow s.here) (here := s.here) G.ll G.la T.length (Nat.le_refl _)
  obtain ⟨hx, ha⟩ := h3 j
  show ∃ x, gO (run (scanOne T s.mine s.theirs s.done (gN ow s.here) s.here) T.length (s.lst, s.ahead)).1 j = some x ∧ _ ∧ gN (run (scanOne T s.mine s.theirs s.done (gN ow s.here) s.here) T.length (s.lst, s.ahead)).2 j ∈ _ ∧ x = cc T (gN ow (gN (run (scanOne T s.mine s.theirs s.done (gN ow s.here) s.here) T.length (s.lst, s.ahead)).2 j)) j - gI s.mine (gN ow (gN (run (scanOne T s.mine s.theirs s.done (gN ow s.here) s.here) T.length (s.lst, s.ahead)).2 j)) - gI s.theirs j ∧ _
  rw [hx, ha]
  by_cases hp : pre = []
  · have e0 := G.lst0 hp j h1 h2
    have cnd : 1 ≤ j ∧ j ≤ T.length ∧ ¬ j ∈ s.done ∧ better (gO s.lst j) (costOf T s.mine s.theirs (gN ow s.here) j) = true := ⟨h1, h2, hj, by rw [e0]; rfl⟩
    rw [if_pos cnd, if_pos cnd]
    refine ⟨_, rfl, fun q => absurd hp q, G.here_mem, rfl, fun d hd => ?_⟩
    rw [G.dn, hp] at hd
    have : d = s.here := by simpa using hd
    subst this
    exact Int.le_refl _
  · obtain ⟨x, e1, x0, am, xe, xl⟩ := G.lst hp j h1 h2 hj
    have hh : s.here ≠ 0 := fun q => hp (G.pre_nil.mpr q)
    have hk := G.owK (j := s.here) (by omega) G.hereLe
    have fe := G.feas (gN ow s.here) j (by omega) hk h1 h2
    by_cases c : costOf T s.mine s.theirs (gN ow s.here) j < x
    · have cnd : 1 ≤ j ∧ j ≤ T.length ∧ ¬ j ∈ s.done ∧ better (gO s.lst j) (costOf T s.mine s.theirs (gN ow s.here) j) = true := ⟨h1, h2, hj, by rw [e1]; exact decide_eq_true c⟩
      rw [if_pos cnd, if_pos cnd]
      refine ⟨_, rfl, fun _ => ?_, G.here_mem, rfl, fun d hd => ?_⟩
      · rw [cost_eq]; omega
      · rw [G.dn] at hd
        rcases List.mem_append.mp hd with hd | hd
        · have := xl d hd; omega
        · rw [List.mem_singleton.mp hd]; exact Int.le_refl _
    · have cnd : ¬ (1 ≤ j ∧ j ≤ T.length ∧ ¬ j ∈ s.done ∧ better (gO s.lst j) (costOf T s.mine s.theirs (gN ow s.here) j) = true) := fun q => by
        have := q.2.2.2
        rw [e1] at this
        exact c (of_decide_eq_true this)
      rw [if_neg cnd, if_neg cnd]
      refine ⟨x, e1, fun _ => x0, by rw [G.dn]; exact List.mem_append_left _ am, xe, fun d hd => ?_⟩
      rw [G.dn] at hd
      rcases List.mem_append.mp hd with hd | hd
      · exact xl d hd
      · rw [List.mem_singleton.mp hd]
        rw [cost_eq] at c
        omega
end
end RP
/-! Roomprices: one turn of put_in's first while keeps the invariant; the turning over; all people; prices for best. -/
namespace RP
section
variable {T : List (List Int)} {k : Nat} {ow : List Nat} {s : Grow} {pre : List Nat}
abbrev scOf (T : List (List Int)) (ow : List Nat) (s : Grow) : List (Option Int) × List Nat := scan T s.mine s.theirs s.done (gN ow s.here) s.here (s.lst, s.ahead)
abbrev byOf (T : List (List Int)) (ow : List Nat) (s : Grow) : Int := minL ((openRooms T.length s.done).map fun r => (gO (scOf T ow s).1 r).getD 0)
abbrev mlOf (T : List (List Int)) (ow : List Nat) (s : Grow) : List Int × List Int := lift ow s.done (byOf T ow s) (s.mine, s.theirs)
abbrev l2Of (T : List (List Int)) (ow : List Nat) (s : Grow) : List (Option Int) := lower T.length s.done (byOf T ow s) (scOf T ow s).1
abbrev nextOf (T : List (List Int)) (ow : List Nat) (s : Grow) : Nat := gN (nextRooms T.length s.done (l2Of T ow s)) 0
theorem growOne_eq : growOne T ow s = { mine := (mlOf T ow s).1, theirs := (mlOf T ow s).2, lst := l2Of T ow s, ahead := (scOf T ow s).2, done := s.done ++ [nextOf T ow s], here := nextOf T ow s } := rfl
/-- the least that is known of an open room -/
theorem GInv.by_ (G : GInv T k ow s pre) (ho : gN ow s.here ≠ 0) : (∃ r, r ∈ openRooms T.length s.done ∧ gO (scOf T ow s).1 r = some (byOf T ow s)) ∧
    (∀ r x, r ∈ openRooms T.length s.done → gO (scOf T ow s).1 r = some x → byOf T ow s ≤ x) ∧ (pre ≠ [] → 0 ≤ byOf T ow s) := by
  obtain ⟨_, hne⟩ := G.open_ ho
  have hne2 : ((openRooms T.length s.done).map fun r => (gO (scOf T ow s).1 r).getD 0) ≠ [] := fun e => hne (List.map_eq_nil_iff.mp e)
  obtain ⟨h1, h2⟩ := minL_spec hne2
  have ex : ∃ r, r ∈ openRooms T.length s.done ∧ gO (scOf T ow s).1 r = some (byOf T ow s) := by
    obtain ⟨r, hr, e⟩ := List.mem_map.mp h1
    obtain ⟨a, b, c⟩ := mem_openRooms.mp hr
    obtain ⟨x, ex, _⟩ := G.scanned ho a b c
    refine ⟨r, hr, ?_⟩
    rw [ex] at e ⊢
    exact congrArg some e
  refine ⟨ex, fun r x hr e => ?_, fun hp => ?_⟩
  · have := h2 ((gO (scOf T ow s).1 r).getD 0) (List.mem_map.mpr ⟨r, hr, rfl⟩)
    rw [e] at this
    exact this
  · obtain ⟨r, hr, e⟩ := ex
    obtain ⟨a, b, c⟩ := mem_openRooms.mp hr
    obtain ⟨x, ex, x0, _⟩ := G.scanned ho a b c
    rw [ex] at e
    have : x = byOf T ow s := Option.some.inj e
    rw [← this]
    exact x0 hp
theorem GInv.lens (G : GInv T k ow s pre) : (scOf T ow s).1.length = T.length + 1 ∧ (scOf T ow s).2.length = T.length + 1 := by
  obtain ⟨h1, h2, _⟩ := scan_upto (T := T) (m := s.mine) (th := s.theirs) (done := s.done) (now := gN ow s.here) (here := s.here) G.ll G.la T.length (Nat.le_refl _)
  exact ⟨h1, h2⟩
theorem GInv.lowered (G : GInv T k ow s pre) : (l2Of T ow s).length = T.length + 1 ∧ ∀ j, gO (l2Of T ow s) j = if 1 ≤ j ∧ j ≤ T.length ∧ ¬ j ∈ s.done then some ((gO (scOf T ow s).1 j).getD 0 - byOf T ow s) else gO (scOf T ow s).1 j :=
  lower_upto G.lens.1 T.length (Nat.le_refl _)
theorem GInv.lifted (G : GInv T k ow s pre) (ho : gN ow s.here ≠ 0) : (mlOf T ow s).1.length = T.length + 1 ∧ (mlOf T ow s).2.length = T.length + 1 ∧
    (∀ i, gI (mlOf T ow s).1 i = if ∃ d ∈ s.done, gN ow d = i then gI s.mine i + byOf T ow s else gI s.mine i) ∧
    ∀ j, gI (mlOf T ow s).2 j = if j ∈ s.done then gI s.theirs j - byOf T ow s else gI s.theirs j := by
  have kn := G.kn
  have h := lift_upto (b := byOf T ow s) G.lm G.lt G.dle (fun d hd => by have := G.owLe (G.dle d hd); omega) G.nd (fun d e hd he q => G.inj d e (G.dle d hd) (G.dle e he) (G.ownD ho d hd) q) s.done.length (Nat.le_refl _)
  rw [List.take_length] at h
  exact h
/-- the next room: not done, reached for nothing -/
theorem GInv.next (G : GInv T k ow s pre) (ho : gN ow s.here ≠ 0) : nextRooms T.length s.done (l2Of T ow s) ≠ [] ∧ 1 ≤ nextOf T ow s ∧ nextOf T ow s ≤ T.length ∧ ¬ nextOf T ow s ∈ s.done ∧ gO (scOf T ow s).1 (nextOf T ow s) = some (byOf T ow s) := by
  obtain ⟨⟨r, hr, e⟩, _, _⟩ := G.by_ ho
  obtain ⟨a, b, c⟩ := mem_openRooms.mp hr
  have hl := (G.lowered).2
  have hm : r ∈ nextRooms T.length s.done (l2Of T ow s) := mem_nextRooms.mpr ⟨a, b, c, by
    rw [hl, if_pos ⟨a, b, c⟩, e]
    show some (byOf T ow s - byOf T ow s) = some 0
    rw [Int.sub_self]⟩
  have hne : nextRooms T.length s.done (l2Of T ow s) ≠ [] := fun q => by rw [q] at hm; cases hm
  have hpos : 0 < (nextRooms T.length s.done (l2Of T ow s)).length := List.length_pos_iff.mpr hne
  have hmem : nextOf T ow s ∈ nextRooms T.length s.done (l2Of T ow s) := gD_mem hpos
  obtain ⟨a', b', c', d'⟩ := mem_nextRooms.mp hmem
  refine ⟨hne, a', b', c', ?_⟩
  rw [hl, if_pos ⟨a', b', c'⟩] at d'
  obtain ⟨x, ex, _⟩ := G.scanned ho a' b' c'
  rw [ex] at d' ⊢
  have : x - byOf T ow s = 0 := Option.some.inj d'
  exact congrArg some (by omega)
theorem GInv.step (G : GInv T k ow s pre) (ho : gN ow s.here ≠ 0) : GInv T k ow (growOne T ow s) s.done := by
  obtain ⟨_, hle, hb0⟩ := G.by_ ho
  obtain ⟨_, n1, n2, n3, n4⟩ := G.next ho
  obtain ⟨lm, lt, hm, ht⟩ := G.lifted ho
  obtain ⟨ll, hl2⟩ := G.lowered
  rw [growOne_eq]
  have inD : ∀ d, d ∈ s.done → gI (mlOf T ow s).1 (gN ow d) = gI s.mine (gN ow d) + byOf T ow s := fun d hd => by rw [hm, if_pos ⟨d, hd, rfl⟩]
  have thD : ∀ d, d ∈ s.done → gI (mlOf T ow s).2 d = gI s.theirs d - byOf T ow s := fun d hd => by rw [ht, if_pos hd]
  have thN : ∀ d, ¬ d ∈ s.done → gI (mlOf T ow s).2 d = gI s.theirs d := fun d hd => by rw [ht, if_neg hd]
  -- a room that is done, but for the first, lies behind another
  have preOf : ∀ j, 1 ≤ j → j ∈ s.done → pre ≠ [] := fun j hj hd e => by
    rw [G.dn, e] at hd
    have : j = s.here := by simpa using hd
    have := G.pre_nil.mp e
    omega
  -- what every person says of every room, as far as they are in
  have feasX : ∀ i j, (∀ jj, 1 ≤ jj → jj ≤ T.length → (pre ≠ [] ∨ i ≠ k + 1) → gI s.mine i + gI s.theirs jj ≤ cc T i jj) → 1 ≤ j → j ≤ T.length → ((∃ d ∈ s.done, gN ow d = i) ∨ i ≠ k + 1) →
      gI (mlOf T ow s).1 i + gI (mlOf T ow s).2 j ≤ cc T i j := by
    intro i j hf hj1 hj2 hi
    by_cases ci : ∃ d ∈ s.done, gN ow d = i
    · obtain ⟨d, hd, e⟩ := ci
      have e1 : gI (mlOf T ow s).1 i = gI s.mine i + byOf T ow s := by rw [hm, if_pos ⟨d, hd, e⟩]
      by_cases cj : j ∈ s.done
      · rw [e1, thD j cj]
        have := hf j hj1 hj2 (.inl (preOf j hj1 cj))
        omega
      · rw [e1, thN j cj]
        obtain ⟨x, ex, _, _, _, xl⟩ := G.scanned ho hj1 hj2 cj
        have h1 := hle j x (mem_openRooms.mpr ⟨hj1, hj2, cj⟩) ex
        have h2 := xl d hd
        rw [e] at h2
        omega
    · have e1 : gI (mlOf T ow s).1 i = gI s.mine i := by rw [hm, if_neg ci]
      have hik : i ≠ k + 1 := hi.elim (fun q => absurd q ci) id
      have := hf j hj1 hj2 (.inr hik)
      by_cases cj : j ∈ s.done
      · rw [e1, thD j cj]
        have := hb0 (preOf j hj1 cj)
        omega
      · rw [e1, thN j cj]
        exact this
  refine { kn := G.kn, lm := lm, lt := lt, lo := G.lo, ll := ll, la := G.lens.2, o0 := G.o0, le := G.le, inj := G.inj, has := G.has, dn := rfl, nd := ?_, dle := ?_, hd := ?_, own := G.ownD ho, feas := ?_, tight := ?_, feasW := ?_, chain := ?_, lst0 := ?_, lst := ?_ }
  · refine List.nodup_append.mpr ⟨G.nd, by simp, fun a ha b hb => ?_⟩
    rw [List.mem_singleton.mp hb]
    exact fun q => n3 (q ▸ ha)
  · intro d hd
    rcases List.mem_append.mp hd with hd | hd
    · exact G.dle d hd
    · rw [List.mem_singleton.mp hd]; exact n2
  · have hlen : 0 < s.done.length := List.length_pos_of_mem G.zero
    show (s.done ++ [nextOf T ow s])[0]? = some 0
    rw [List.getElem?_append_left hlen]
    exact G.hd
  · intro i j hi1 hi2 hj1 hj2
    exact feasX i j (fun jj h1 h2 _ => G.feas i jj hi1 hi2 h1 h2) hj1 hj2 (.inr (by omega))
  · intro j hj1 hj2 hoj
    show gI (mlOf T ow s).1 (gN ow j) + gI (mlOf T ow s).2 j = _
    have t := G.tight j hj1 hj2 hoj
    by_cases cj : j ∈ s.done
    · rw [inD j cj, thD j cj]
      omega
    · rw [thN j cj, hm, if_neg]
      · exact t
      · rintro ⟨d, hd, e⟩
        have := G.inj d j (G.dle d hd) hj2 (G.ownD ho d hd) e
        rw [this] at hd
        exact cj hd
  · intro _ j hj1 hj2
    exact feasX (k + 1) j (fun jj h1 h2 q => G.feasW (q.elim id fun z => absurd rfl z) jj h1 h2) hj1 hj2 (.inl ⟨0, G.zero, G.o0⟩)
  · intro t d ht1 htd
    show ∃ q, q < t ∧ (s.done ++ [nextOf T ow s])[q]? = some (gN (scOf T ow s).2 d) ∧ gI (mlOf T ow s).1 (gN ow (gN (scOf T ow s).2 d)) + gI (mlOf T ow s).2 d = cc T (gN ow (gN (scOf T ow s).2 d)) d
    have htd : (s.done ++ [nextOf T ow s])[t]? = some d := htd
    by_cases htl : t < s.done.length
    · rw [List.getElem?_append_left htl] at htd
      have hdm : d ∈ s.done := List.mem_of_getElem? htd
      obtain ⟨q, hq, hqe, hqt⟩ := G.chain t d ht1 htd
      have ea : gN (scOf T ow s).2 d = gN s.ahead d := by
        obtain ⟨_, _, h3⟩ := scan_upto (T := T) (m := s.mine) (th := s.theirs) (done := s.done) (now := gN ow s.here) (here := s.here) G.ll G.la T.length (Nat.le_refl _)
        have := (h3 d).2
        rw [if_neg (fun q => q.2.2.1 hdm)] at this
        exact this
      rw [ea]
      have ham : gN s.ahead d ∈ s.done := List.mem_of_getElem? hqe
      refine ⟨q, hq, by rw [List.getElem?_append_left (by omega)]; exact hqe, ?_⟩
      rw [inD _ ham, thD d hdm]
      omega
    · have htlen : t = s.done.length := by
        have := (List.getElem?_eq_some_iff.mp htd).1
        simp at this
        omega
      subst htlen
      rw [List.getElem?_append_right (Nat.le_refl _)] at htd
      have ed : nextOf T ow s = d := by simpa using htd
      subst ed
      obtain ⟨x, ex, _, am, xe, _⟩ := G.scanned ho n1 n2 n3
      rw [n4] at ex
      have exb : byOf T ow s = x := Option.some.inj ex
      obtain ⟨q, hq⟩ := List.mem_iff_getElem?.mp am
      have hql := (List.getElem?_eq_some_iff.mp hq).1
      refine ⟨q, hql, by rw [List.getElem?_append_left hql]; exact hq, ?_⟩
      have e1 : gI (mlOf T ow s).1 (gN ow (gN (scOf T ow s).2 (nextOf T ow s))) = gI s.mine (gN ow (gN (scOf T ow s).2 (nextOf T ow s))) + byOf T ow s := inD _ am
      rw [e1, thN _ n3]
      have xe : x = cc T (gN ow (gN (scOf T ow s).2 (nextOf T ow s))) (nextOf T ow s) - gI s.mine (gN ow (gN (scOf T ow s).2 (nextOf T ow s))) - gI s.theirs (nextOf T ow s) := xe
      omega
  · intro e
    have := G.zero
    rw [e] at this
    cases this
  · intro _ j hj1 hj2 hj
    show ∃ x, gO (l2Of T ow s) j = some x ∧ 0 ≤ x ∧ gN (scOf T ow s).2 j ∈ s.done ∧ x = cc T (gN ow (gN (scOf T ow s).2 j)) j - gI (mlOf T ow s).1 (gN ow (gN (scOf T ow s).2 j)) - gI (mlOf T ow s).2 j ∧
      ∀ d ∈ s.done, x ≤ cc T (gN ow d) j - gI (mlOf T ow s).1 (gN ow d) - gI (mlOf T ow s).2 j
    have hj' : ¬ j ∈ s.done := fun q => hj (List.mem_append_left _ q)
    obtain ⟨x, ex, _, am, xe, xl⟩ := G.scanned ho hj1 hj2 hj'
    have hbx := hle j x (mem_openRooms.mpr ⟨hj1, hj2, hj'⟩) ex
    refine ⟨x - byOf T ow s, ?_, by omega, am, ?_, fun d hd => ?_⟩
    · rw [hl2, if_pos ⟨hj1, hj2, hj'⟩, ex]
      rfl
    · have e1 : gI (mlOf T ow s).1 (gN ow (gN (scOf T ow s).2 j)) = gI s.mine (gN ow (gN (scOf T ow s).2 j)) + byOf T ow s := inD _ am
      rw [e1, thN j hj']
      have xe : x = cc T (gN ow (gN (scOf T ow s).2 j)) j - gI s.mine (gN ow (gN (scOf T ow s).2 j)) - gI s.theirs j := xe
      omega
    · rw [inD d hd, thN j hj']
      have := xl d hd
      omega

/-! ### the turning over -/
structure AInv (T : List (List Int)) (k : Nat) (ow : List Nat) (s : Grow) (o : List Nat) (h t : Nat) : Prop where
  ht : s.done[t]? = some h
  lo : o.length = T.length + 1
  le : ∀ j, j ≤ T.length → gN o j ≤ k + 1
  inj : ∀ i j, i ≤ T.length → j ≤ T.length → i ≠ h → j ≠ h → gN o i ≠ 0 → gN o i = gN o j → i = j
  has : ∀ i, 1 ≤ i → i ≤ k + 1 → ∃ j, j ≤ T.length ∧ j ≠ h ∧ gN o j = i
  tight : ∀ j, 1 ≤ j → j ≤ T.length → j ≠ h → gN o j ≠ 0 → gI s.mine (gN o j) + gI s.theirs j = cc T (gN o j) j
  same : ∀ q d, q ≤ t → s.done[q]? = some d → gN o d = gN ow d
theorem GInv.turn0 (G : GInv T k ow s pre) (he : gN ow s.here = 0) : AInv T k ow s ow s.here (s.done.length - 1) where
  ht := by
    have e : s.done = pre ++ [s.here] := G.dn
    rw [e, List.length_append, List.length_singleton, Nat.add_sub_cancel, List.getElem?_append_right (Nat.le_refl _), Nat.sub_self]
    rfl
  lo := G.lo
  le := fun j hj => G.owLe hj
  inj := fun i j hi hj _ _ h0 e => G.inj i j hi hj h0 e
  has := fun i h1 h2 => by
    by_cases e : i = k + 1
    · refine ⟨0, Nat.zero_le _, fun q => ?_, by rw [e]; exact G.o0⟩
      rw [← q, G.o0] at he
      omega
    · obtain ⟨j, hj1, hj2, e⟩ := G.has i h1 (by omega)
      exact ⟨j, hj2, fun q => by rw [q, he] at e; omega, e⟩
  tight := fun j h1 h2 _ h0 => G.tight j h1 h2 h0
  same := fun _ _ _ _ => rfl
/-- a step of it: the room at hand is taken by the owner of the one ahead -/
theorem AInv.step {o : List Nat} {h t : Nat} (G : GInv T k ow s pre) (A : AInv T k ow s o h t) (h0 : h ≠ 0) : ∃ t', t' < t ∧ AInv T k ow s (o.set h (gN o (gN s.ahead h))) (gN s.ahead h) t' := by
  have ht1 : 1 ≤ t := by
    rcases Nat.eq_zero_or_pos t with e | e
    · have := A.ht
      rw [e, G.hd] at this
      exact absurd (Option.some.inj this).symm h0
    · exact e
  obtain ⟨q, hq, hqe, hqt⟩ := G.chain t h ht1 A.ht
  have hhl : h ≤ T.length := G.dle _ (List.mem_of_getElem? A.ht)
  have hpl : gN s.ahead h ≤ T.length := G.dle _ (List.mem_of_getElem? hqe)
  have hph : gN s.ahead h ≠ h := fun e => by
    rw [e] at hqe
    have := nd_ix G.nd hqe A.ht
    omega
  have hset : ∀ j, gN (o.set h (gN o (gN s.ahead h))) j = if j = h then gN o (gN s.ahead h) else gN o j := fun j => by
    show (List.set _ _ _).getD _ _ = _
    by_cases e : j = h
    · subst e; rw [gD_set_self (by have := A.lo; omega), if_pos rfl]
    · rw [gD_set_ne (fun z => e z.symm), if_neg e]
  refine ⟨q, hq, ⟨hqe, by rw [List.length_set]; exact A.lo, fun j hj => ?_, fun i j hi hj ni nj h0' e => ?_, fun i hi1 hi2 => ?_, fun j hj1 hj2 nj h0' => ?_, fun q' d hq' hd => ?_⟩⟩
  · rw [hset]; split
    · exact A.le _ hpl
    · exact A.le j hj
  · rw [hset, hset] at e
    rw [hset] at h0'
    by_cases ei : i = h
    · by_cases ej : j = h
      · rw [ei, ej]
      · rw [if_pos ei, if_neg ej] at e
        rw [if_pos ei] at h0'
        exact absurd (A.inj _ j hpl hj hph ej h0' e).symm nj
    · by_cases ej : j = h
      · rw [if_neg ei, if_pos ej] at e
        rw [if_neg ei] at h0'
        exact absurd (A.inj i _ hi hpl ei hph h0' e) ni
      · rw [if_neg ei, if_neg ej] at e
        rw [if_neg ei] at h0'
        exact A.inj i j hi hj ei ej h0' e
  · obtain ⟨j, hj, nj, e⟩ := A.has i hi1 hi2
    by_cases ej : j = gN s.ahead h
    · exact ⟨h, hhl, fun z => hph z.symm, by rw [hset, if_pos rfl, ← ej]; exact e⟩
    · exact ⟨j, hj, ej, by rw [hset, if_neg nj]; exact e⟩
  · rw [hset] at h0' ⊢
    by_cases ej : j = h
    · rw [if_pos ej] at h0' ⊢
      subst ej
      have e1 := A.same q _ (by omega) hqe
      rw [e1]
      exact hqt
    · rw [if_neg ej] at h0' ⊢
      exact A.tight j hj1 hj2 ej h0'
  · rw [hset]
    have : d ≠ h := fun z => by
      rw [z] at hd
      have := nd_ix G.nd hd A.ht
      omega
    rw [if_neg this]
    exact A.same q' d (by omega) hd
theorem turnOver_ok (G : GInv T k ow s pre) : ∀ (f : Nat) (h t : Nat) (o : List Nat), t < f → AInv T k ow s o h t → ∃ t', AInv T k ow s (turnOver s.ahead f h o) 0 t'
  | f + 1, h, t, o, hf, A => by
    unfold turnOver
    by_cases e : h = 0
    · rw [if_pos e]
      subst e
      exact ⟨t, A⟩
    · rw [if_neg e]
      obtain ⟨t', ht', A'⟩ := A.step G e
      exact turnOver_ok G f _ t' _ (by omega) A'
theorem GInv.end_ (G : GInv T k ow s pre) (he : gN ow s.here = 0) : OInv T (k + 1) ⟨s.mine, s.theirs, turnOver s.ahead (T.length + 1) s.here ow⟩ := by
  have hp : pre ≠ [] := fun e => by
    have := G.pre_nil.mp e
    rw [this, G.o0] at he
    omega
  have dl := G.doneLen
  have dpos : 0 < s.done.length := List.length_pos_of_mem G.zero
  obtain ⟨t', A⟩ := turnOver_ok G (T.length + 1) s.here (s.done.length - 1) ow (by omega) (G.turn0 he)
  exact { lm := G.lm, lt := G.lt, lo := A.lo, le := fun j _ hj => A.le j hj, inj := fun i j hi hi2 hj hj2 h0 e => A.inj i j hi2 hj2 (by omega) (by omega) h0 e,
          has := fun i h1 h2 => by
            obtain ⟨j, hj, nj, e⟩ := A.has i h1 h2
            exact ⟨j, by omega, hj, e⟩,
          feas := fun i j h1 h2 h3 h4 => by
            by_cases e : i = k + 1
            · subst e; exact G.feasW hp j h3 h4
            · exact G.feas i j h1 (by omega) h3 h4,
          tight := fun j h1 h2 h0 => A.tight j h1 h2 (by omega) h0 }
end

/-! ### all people -/
theorem OInv.start {T : List (List Int)} {k : Nat} {p : Put} (O : OInv T k p) (hk : k + 1 ≤ T.length) : GInv T k (p.owner.set 0 (k + 1)) (grow0 T.length p) [] := by
  have hset : ∀ j, gN (p.owner.set 0 (k + 1)) j = if j = 0 then k + 1 else gN p.owner j := fun j => by
    show (List.set _ _ _).getD _ _ = _
    by_cases e : j = 0
    · subst e; rw [gD_set_self (by have := O.lo; omega), if_pos rfl]
    · rw [gD_set_ne (fun z => e z.symm), if_neg e]
  have hs : ∀ j, 1 ≤ j → gN (p.owner.set 0 (k + 1)) j = gN p.owner j := fun j hj => by rw [hset, if_neg (by omega)]
  exact {
    kn := hk, lm := O.lm, lt := O.lt, lo := by rw [List.length_set]; exact O.lo, ll := by simp [grow0], la := by simp [grow0], o0 := by rw [hset, if_pos rfl],
    le := fun j h1 h2 => by rw [hs j h1]; exact O.le j h1 h2,
    inj := fun i j hi hj h0 e => by
      rw [hset, hset] at e
      rw [hset] at h0
      by_cases ei : i = 0
      · by_cases ej : j = 0
        · rw [ei, ej]
        · rw [if_pos ei, if_neg ej] at e
          have := O.le j (by omega) hj
          omega
      · by_cases ej : j = 0
        · rw [if_neg ei, if_pos ej] at e
          have := O.le i (by omega) hi
          omega
        · rw [if_neg ei, if_neg ej] at e
          rw [if_neg ei] at h0
          exact O.inj i j (by omega) hi (by omega) hj h0 e,
    has := fun i h1 h2 => by
      obtain ⟨j, hj1, hj2, e⟩ := O.has i h1 h2
      exact ⟨j, hj1, hj2, by rw [hs j hj1]; exact e⟩,
    dn := rfl, nd := by simp [grow0], dle := fun d hd => by
      have : d = 0 := by simpa [grow0] using hd
      omega,
    hd := rfl, own := fun d hd => (by cases hd),
    feas := O.feas, tight := fun j h1 h2 h0 => by
      rw [hs j h1] at h0 ⊢
      exact O.tight j h1 h2 h0,
    feasW := fun q => absurd rfl q,
    chain := fun t d ht h => by
      have : t < [0].length := (List.getElem?_eq_some_iff.mp h).1
      simp at this
      omega,
    lst0 := fun _ j _ _ => by
      show (List.replicate _ none).getD j none = none
      exact gD_rep,
    lst := fun q => absurd rfl q }
theorem grow_ok {T : List (List Int)} {k : Nat} {ow : List Nat} : ∀ (f : Nat) (s : Grow) (pre : List Nat), T.length + 2 ≤ f + s.done.length → GInv T k ow s pre → ∃ pre', GInv T k ow (grow T ow f s) pre' ∧ gN ow (grow T ow f s).here = 0
  | 0, s, pre, hf, G => by
    have := G.doneLen
    omega
  | f + 1, s, pre, hf, G => by
    unfold grow
    by_cases e : gN ow s.here = 0
    · rw [if_pos e]
      exact ⟨pre, G, e⟩
    · rw [if_neg e]
      refine grow_ok f (growOne T ow s) s.done ?_ (G.step e)
      have : (growOne T ow s).done.length = s.done.length + 1 := by rw [growOne_eq]; simp
      omega
theorem putIn_ok {T : List (List Int)} {k : Nat} {p : Put} (O : OInv T k p) (hk : k + 1 ≤ T.length) : OInv T (k + 1) (putIn T (k + 1) p) := by
  obtain ⟨pre, G, e⟩ := grow_ok (T.length + 1) _ _ (by show T.length + 2 ≤ T.length + 1 + 1; omega) (O.start hk)
  exact G.end_ e
theorem put0_ok (T : List (List Int)) : OInv T 0 (put0 T.length) := by
  have z : ∀ j, gN (put0 T.length).owner j = 0 := fun j => gD_rep
  exact { lm := by simp [put0], lt := by simp [put0], lo := by simp [put0], le := fun j _ _ => by rw [z]; exact Nat.le_refl _, inj := fun i j _ _ _ _ h0 => absurd (z i) h0,
          has := fun i h1 h2 => by omega, feas := fun i j h1 h2 => by omega, tight := fun j _ _ h0 => absurd (z j) h0 }
theorem putAll_upto (T : List (List Int)) : ∀ k, k ≤ T.length → OInv T k (run (fun i p => putIn T (i + 1) p) k (put0 T.length))
  | 0, _ => put0_ok T
  | k + 1, h => putIn_ok (putAll_upto T k (by omega)) h
theorem putAll_ok (T : List (List Int)) : OInv T T.length (putAll T) := putAll_upto T T.length (Nat.le_refl _)
end RP
/-! Roomprices: best is a giving, it bears prices; shapes of what is told. -/
namespace RP
/-- each of n rooms once -/
structure Giving (n : Nat) (g : List Nat) : Prop where
  len : g.length = n
  lt : ∀ i, i < n → gN g i < n
  inj : ∀ i j, i < n → j < n → gN g i = gN g j → i = j
theorem map_gN {n : Nat} {g : List Nat} (h : g.length = n) : (List.range n).map (gN g) = g := by
  refine List.ext_getElem? fun i => ?_
  rw [List.getElem?_map]
  by_cases hi : i < n
  · rw [List.getElem?_range hi, get_of_lt (d := 0) (by omega : i < g.length)]
    rfl
  · rw [List.getElem?_eq_none (by simpa using hi), List.getElem?_eq_none (by omega)]
    rfl
theorem Giving.nodup {n : Nat} {g : List Nat} (G : Giving n g) : g.Nodup := by
  rw [← map_gN G.len]
  exact nodup_map_inj List.nodup_range fun a b ha hb e => G.inj a b (List.mem_range.mp ha) (List.mem_range.mp hb) e
theorem Giving.surj {n : Nat} {g : List Nat} (G : Giving n g) {r : Nat} (hr : r < n) : ∃ i, i < n ∧ gN g i = r := inj_surj (gN g) G.lt G.inj r hr
theorem Giving.mem {n : Nat} {g : List Nat} (G : Giving n g) {r : Nat} : r ∈ g ↔ r < n := by
  constructor
  · intro h
    obtain ⟨i, hi⟩ := List.mem_iff_getElem?.mp h
    have hl := (List.getElem?_eq_some_iff.mp hi).1
    rw [G.len] at hl
    have := G.lt i hl
    rw [show gN g i = r from gD_of_get hi] at this
    exact this
  · intro h
    obtain ⟨i, hi, e⟩ := G.surj h
    rw [← e]
    exact gD_mem (by rw [G.len]; exact hi)
theorem Giving.perm {n : Nat} {g : List Nat} (G : Giving n g) : g.Perm (List.range n) := by
  rw [List.perm_iff_count]
  intro a
  rw [G.nodup.count, List.nodup_range.count]
  have : a ∈ g ↔ a ∈ List.range n := by rw [G.mem, List.mem_range]
  by_cases h : a ∈ g
  · rw [if_pos h, if_pos (this.mp h)]
  · rw [if_neg h, if_neg (fun q => h (this.mpr q))]
theorem ownersGo_upto {n : Nat} {g : List Nat} (G : Giving n g) : ∀ k, k ≤ n → (run (ownersGo g) k (List.replicate n 0)).length = n ∧ ∀ i, i < k → gN (run (ownersGo g) k (List.replicate n 0)) (gN g i) = i
  | 0, _ => ⟨by simp [run], fun i hi => by omega⟩
  | k + 1, h => by
    obtain ⟨h1, h2⟩ := ownersGo_upto G k (by omega)
    show (ownersGo g k (run (ownersGo g) k (List.replicate n 0))).length = n ∧ ∀ i, i < k + 1 → gN (ownersGo g k (run (ownersGo g) k (List.replicate n 0))) (gN g i) = i
    generalize run (ownersGo g) k (List.replicate n 0) = r at h1 h2 ⊢
    unfold ownersGo
    refine ⟨by rw [List.length_set]; exact h1, fun i hi => ?_⟩
    show (List.set _ _ _).getD _ _ = _
    by_cases e : i = k
    · subst e
      exact gD_set_self (by rw [h1]; exact G.lt i (by omega))
    · rw [gD_set_ne (fun q => e (G.inj k i (by omega) (by omega) q).symm)]
      exact h2 i (by omega)
theorem Giving.owners {n : Nat} {g : List Nat} (G : Giving n g) : (owners g).length = n ∧ ∀ i, i < n → gN (owners g) (gN g i) = i := by
  unfold RP.owners
  rw [G.len]
  exact ownersGo_upto G n (Nat.le_refl _)
theorem Giving.byLt {n : Nat} {g : List Nat} (G : Giving n g) {r : Nat} (hr : r < n) : gN (RP.owners g) r < n := by
  obtain ⟨i, hi, e⟩ := G.surj hr
  rw [← e, G.owners.2 i hi]
  exact hi
theorem Giving.byAt {n : Nat} {g : List Nat} (G : Giving n g) {r : Nat} (hr : r < n) : gN g (gN (RP.owners g) r) = r := by
  obtain ⟨i, hi, e⟩ := G.surj hr
  rw [← e, G.owners.2 i hi]

theorem own_pos (T : List (List Int)) {j : Nat} (h1 : 1 ≤ j) (h2 : j ≤ T.length) : 1 ≤ gN (putAll T).owner j ∧ gN (putAll T).owner j ≤ T.length := by
  have O := putAll_ok T
  refine ⟨?_, O.le j h1 h2⟩
  have hx : ∀ i, i < T.length → ∃ j, j < T.length ∧ gN (putAll T).owner (j + 1) = i + 1 := fun i hi => by
    obtain ⟨j, a, b, c⟩ := O.has (i + 1) (by omega) (by omega)
    exact ⟨j - 1, by omega, by rw [show j - 1 + 1 = j by omega]; exact c⟩
  let f : Nat → Nat := fun i => if h : i < T.length then (hx i h).choose else 0
  have hf : ∀ i, i < T.length → f i < T.length ∧ gN (putAll T).owner (f i + 1) = i + 1 := fun i hi => by
    show (if h : i < T.length then (hx i h).choose else 0) < T.length ∧ gN (putAll T).owner ((if h : i < T.length then (hx i h).choose else 0) + 1) = i + 1
    rw [dif_pos hi]
    exact (hx i hi).choose_spec
  obtain ⟨i, hi, e⟩ := inj_surj f (fun i hi => (hf i hi).1) (fun a b ha hb e => by
    have h1 := (hf a ha).2
    have h2 := (hf b hb).2
    rw [e, h2] at h1
    omega) (j - 1) (by omega)
  have := (hf i hi).2
  rw [e, show j - 1 + 1 = j by omega] at this
  omega
theorem found_upto (T : List (List Int)) : ∀ k, k ≤ T.length → (run (foundOne (putAll T).owner) k (List.replicate T.length 0)).length = T.length ∧
    ∀ j, j < k → gN (run (foundOne (putAll T).owner) k (List.replicate T.length 0)) (gN (putAll T).owner (j + 1) - 1) = j
  | 0, _ => ⟨by simp [run], fun j hj => by omega⟩
  | k + 1, h => by
    obtain ⟨h1, h2⟩ := found_upto T k (by omega)
    show (foundOne (putAll T).owner k (run (foundOne (putAll T).owner) k (List.replicate T.length 0))).length = T.length ∧ ∀ j, j < k + 1 → gN (foundOne (putAll T).owner k (run (foundOne (putAll T).owner) k (List.replicate T.length 0))) (gN (putAll T).owner (j + 1) - 1) = j
    generalize run (foundOne (putAll T).owner) k (List.replicate T.length 0) = r at h1 h2 ⊢
    unfold foundOne
    have pk := own_pos T (j := k + 1) (by omega) (by omega)
    refine ⟨by rw [List.length_set]; exact h1, fun j hj => ?_⟩
    show (List.set _ _ _).getD _ _ = _
    by_cases e : j = k
    · subst e
      exact gD_set_self (by rw [h1]; omega)
    · have pj := own_pos T (j := j + 1) (by omega) (by omega)
      rw [gD_set_ne (fun q => e (by
        have := (putAll_ok T).inj (k + 1) (j + 1) (by omega) (by omega) (by omega) (by omega) (by omega) (by omega)
        omega))]
      exact h2 j (by omega)
/-- in best person i has the room that i owns -/
theorem best_at (T : List (List Int)) {i : Nat} (hi : i < T.length) : gN (best T) i < T.length ∧ gN (putAll T).owner (gN (best T) i + 1) = i + 1 := by
  obtain ⟨j, a, b, c⟩ := (putAll_ok T).has (i + 1) (by omega) (by omega)
  have h := (found_upto T T.length (Nat.le_refl _)).2 (j - 1) (by omega)
  rw [show j - 1 + 1 = j by omega, c] at h
  have h' : gN (best T) i = j - 1 := h
  rw [h', show j - 1 + 1 = j by omega]
  exact ⟨by omega, c⟩
theorem best_giving (T : List (List Int)) : Giving T.length (best T) where
  len := (found_upto T T.length (Nat.le_refl _)).1
  lt := fun i hi => (best_at T hi).1
  inj := fun i j hi hj e => by
    have h1 := (best_at T hi).2
    have h2 := (best_at T hj).2
    rw [e, h2] at h1
    omega
theorem gap_at {T : List (List Int)} {g : List Nat} {f r : Nat} (hf : f < T.length) (hr : r < T.length) : at2 (gaps T g) f r = at2 T (gN (owners g) r) r - at2 T (gN (owners g) r) f := by
  have e1 : gR (gaps T g) f = gapRow T (owners g) f := gD_mapR hf
  show gI (gR (gaps T g) f) r = _
  rw [e1]
  exact gD_mapR hr
theorem gaps_sq (T : List (List Int)) (g : List Nat) : IsSq T.length (gaps T g) := by
  refine ⟨by simp [gaps], fun r hr => ?_⟩
  obtain ⟨i, _, rfl⟩ := List.mem_map.mp hr
  simp [gapRow]
/-- what settled tells can be priced -/
theorem best_free (T : List (List Int)) : barring T (best T) = none := by
  have O := putAll_ok T
  have h : (bf (gaps T (best T)) T.length).last = none := by
    refine bf_none (p := fun r => -(gI (putAll T).theirs (r + 1))) fun f r hf hr => ?_
    show _ ≤ _ + at2 (gaps T (best T)) f r
    rw [gap_at hf hr]
    have G := best_giving T
    have hi := G.byLt hr
    obtain ⟨_, he⟩ := best_at T hi
    rw [G.byAt hr] at he
    have t := O.tight (r + 1) (by omega) (by omega) (by rw [he]; omega)
    have s := O.feas (gN (owners (best T)) r + 1) (f + 1) (by omega) (by omega) (by omega) (by omega)
    rw [he] at t
    have e1 : cc T (gN (owners (best T)) r + 1) (r + 1) = -(at2 T (gN (owners (best T)) r) r) := rfl
    have e2 : cc T (gN (owners (best T)) r + 1) (f + 1) = -(at2 T (gN (owners (best T)) r) f) := rfl
    rw [e1] at t
    rw [e2] at s
    omega
  unfold barring
  rw [h]
theorem told_best (T : List (List Int)) (rent : Int) : told T rent (best T) = .priced (pricesOf T rent (best T)) := by
  unfold told
  rw [best_free]
/-! ### shapes -/
theorem set2_sq {n i j : Nat} {v : Int} {F : List (List Int)} (h : IsSq n F) (hi : i < n) : IsSq n (set2 F i j v) := by
  refine ⟨by unfold set2; rw [List.length_set]; exact h.1, fun r hr => ?_⟩
  unfold set2 at hr
  rcases List.mem_or_eq_of_mem_set hr with hr | rfl
  · exact h.2 r hr
  · rw [List.length_set]
    exact h.row hi
theorem fw_sq {n : Nat} {F : List (List Int)} (h : IsSq n F) : IsSq n (fw n F) :=
  run_inv (fun _ F => IsSq n F) h n fun _ _ _ h => run_inv (fun _ F => IsSq n F) h n fun _ _ hi h => run_inv (fun _ F => IsSq n F) h n fun _ _ _ h => set2_sq h hi
theorem bounds_sq (T : List (List Int)) (g : List Nat) : IsSq T.length (bounds T g) := fw_sq (gaps_sq T g)
theorem pricesOf_len (T : List (List Int)) (rent : Int) (g : List Nat) (h : 0 < T.length) : (pricesOf T rent g).length = T.length := by
  unfold pricesOf
  rw [List.length_map]
  exact (bounds_sq T g).row h
/-! ### the ring's rooms -/
theorem ringGo_mem {ahead : List Nat} {n last : Nat} (h : ∀ i, i < n → gN ahead i < n) : ∀ (k cur : Nat) (f : List Nat), cur < n → (∀ x ∈ f, x < n) → ∀ x ∈ ringGo ahead last k cur f, x < n
  | 0, _, _, _, hf => hf
  | k + 1, cur, f, hc, hf => by
    unfold ringGo
    split
    · exact hf
    · refine ringGo_mem h k _ _ (h _ hc) fun x hx => ?_
      rcases List.mem_append.mp hx with hx | hx
      · exact hf x hx
      · rw [List.mem_singleton.mp hx]
        exact h _ hc
theorem ringGo_len {ahead : List Nat} {last : Nat} : ∀ (k cur : Nat) (f : List Nat), (ringGo ahead last k cur f).length ≤ f.length + k
  | 0, _, _ => Nat.le_refl _
  | k + 1, cur, f => by
    unfold ringGo
    split
    · omega
    · have := ringGo_len (ahead := ahead) (last := last) k (gN ahead cur) (f ++ [gN ahead cur])
      rw [List.length_append, List.length_singleton] at this
      omega
theorem ringLast_lt {ahead : List Nat} {n x : Nat} (h : ∀ i, i < n → gN ahead i < n) (hx : x < n) : ringLast ahead n x < n := by
  unfold ringLast
  rw [ringLast_eq]
  exact stepN_lt h hx n
theorem barring_lt {T : List (List Int)} {g around : List Nat} (h : barring T g = some around) : (∀ x ∈ around, x < T.length) ∧ around.length ≤ T.length + 1 := by
  unfold barring at h
  have ok := bf_ok (W := gaps T g) (n := T.length)
  cases e : (bf (gaps T g) T.length).last with
  | none => rw [e] at h; cases h
  | some x =>
    rw [e] at h
    cases h
    have hx := ok.last x e
    have hl := ringLast_lt ok.lt hx
    refine ⟨ringGo_mem ok.lt _ _ _ hl fun y hy => ?_, ?_⟩
    · rw [List.mem_singleton.mp hy]
      exact hl
    · have := ringGo_len (ahead := (bf (gaps T g) T.length).ahead) (last := ringLast (bf (gaps T g) T.length).ahead T.length x) T.length (ringLast (bf (gaps T g) T.length).ahead T.length x) [ringLast (bf (gaps T g) T.length).ahead T.length x]
      unfold ringOf
      simp at this ⊢
      omega
end RP
namespace RP
open PySem PySem.Spec PyProof.Rows L2
/-! ### the text by places -/
def topS (i : Nat) : Stmt := PySem.Challenge.pw_roomprices_k06_whole_numbers.main.body.getD i (.Pass ⟨0, 0, 0, 0⟩)
abbrev sIsNum : Stmt := topS 10
abbrev sAreNum : Stmt := topS 11
abbrev sAskT : Stmt := topS 12
abbrev sAskR : Stmt := topS 13
abbrev sAskG : Stmt := topS 14
abbrev sAskP : Stmt := topS 15
abbrev sAreFit : Stmt := topS 16
abbrev sFit : Stmt := topS 17
abbrev sWorth : Stmt := topS 18
abbrev sPrInit : Stmt := inClass (topS 21) 0
abbrev sPrShows : Stmt := inClass (topS 21) 1
abbrev sRiInit : Stmt := inClass (topS 22) 0
abbrev sRiShows : Stmt := inClass (topS 22) 1
abbrev sSeInit : Stmt := inClass (topS 23) 0
abbrev sSeShows : Stmt := inClass (topS 23) 1
abbrev sOwners : Stmt := topS 25
abbrev sGaps : Stmt := topS 26
abbrev sBarring : Stmt := topS 27
abbrev sBounds : Stmt := topS 28
abbrev sToldOf : Stmt := topS 29
abbrev sTold : Stmt := topS 30
abbrev sBetween : Stmt := topS 31
abbrev sPutIn : Stmt := topS 33
abbrev sBest : Stmt := topS 34
abbrev sSettled : Stmt := topS 35
abbrev sMost : Stmt := topS 36
abbrev sNumber : Stmt := topS 38
abbrev sPlain : Stmt := topS 39
abbrev sTruths : Stmt := topS 40
abbrev sTabRight : Stmt := topS 41
abbrev sHasNo : Stmt := topS 42
abbrev sPromises : Stmt := topS 43
abbrev sRings : Stmt := topS 44
abbrev sLaw : Stmt := topS 45
/-! ### where the top has laid each def and class -/
structure Adr where
  isNum : Addr
  areNum : Addr
  askT : Addr
  askR : Addr
  askG : Addr
  askP : Addr
  areFit : Addr
  fit : Addr
  worth : Addr
  owners : Addr
  gaps : Addr
  barring : Addr
  bounds : Addr
  toldOf : Addr
  told : Addr
  between : Addr
  putIn : Addr
  best : Addr
  settled : Addr
  most : Addr
  number : Addr
  plain : Addr
  truths : Addr
  tabRight : Addr
  hasNo : Addr
  promises : Addr
  rings : Addr
  law : Addr
  cPr : Addr
  cRi : Addr
  cSe : Addr
  prInit : Addr
  prShows : Addr
  riInit : Addr
  riShows : Addr
  seInit : Addr
  seShows : Addr
  cRoomError : Addr
  cNoPrices : Addr
/-- a def of the text at f, under the module's name x -/
structure DefAt (K : PySem.W.Frag) (mg : Str → Option Value) (x : Str) (st : Stmt) (f : Addr) : Prop where
  gl : mg x = some (.ref f)
  fn : ∃ fd, Fun K x x st f fd
/-- a class of the text at C, made by the __init__ at fI -/
structure ClsAt (K : PySem.W.Frag) (mg : Str → Option Value) (x : Str) (C fI : Addr) (qI : Str) (sI : Stmt) : Prop where
  gl : mg x = some (.ref C)
  cl : Cls K C
  mkr : Mk K C fI
  fi : ∃ fd, Fun K "__init__" qI sI fI fd
  ha : PySem.W.findIn K (.ref C) "__class__" = some (some (.builtin "object.__class__"))
  mr : PySem.W.mroIn K C (.type "object") = some true
structure Txt (K : PySem.W.Frag) (mg : Str → Option Value) (D : Adr) : Prop where
  isNum : DefAt K mg "is_number" sIsNum D.isNum
  areNum : DefAt K mg "are_numbers" sAreNum D.areNum
  askT : DefAt K mg "asked_table" sAskT D.askT
  askR : DefAt K mg "asked_rent" sAskR D.askR
  askG : DefAt K mg "asked_giving" sAskG D.askG
  askP : DefAt K mg "asked_prices" sAskP D.askP
  areFit : DefAt K mg "are_fit" sAreFit D.areFit
  fit : DefAt K mg "fit" sFit D.fit
  worth : DefAt K mg "worth" sWorth D.worth
  owners : DefAt K mg "owners" sOwners D.owners
  gaps : DefAt K mg "gaps" sGaps D.gaps
  barring : DefAt K mg "barring" sBarring D.barring
  bounds : DefAt K mg "bounds" sBounds D.bounds
  toldOf : DefAt K mg "told_of" sToldOf D.toldOf
  told : DefAt K mg "told" sTold D.told
  between : DefAt K mg "between" sBetween D.between
  putIn : DefAt K mg "put_in" sPutIn D.putIn
  best : DefAt K mg "best" sBest D.best
  settled : DefAt K mg "settled" sSettled D.settled
  most : DefAt K mg "most" sMost D.most
  number : DefAt K mg "_law_number" sNumber D.number
  plain : DefAt K mg "_law_plain" sPlain D.plain
  truths : DefAt K mg "_law_truths" sTruths D.truths
  tabRight : DefAt K mg "_law_table_right" sTabRight D.tabRight
  hasNo : DefAt K mg "_law_has_no_prices" sHasNo D.hasNo
  promises : DefAt K mg "_law_promises_right" sPromises D.promises
  rings : DefAt K mg "_law_rings_promises" sRings D.rings
  law : DefAt K mg "law" sLaw D.law
  cPr : ClsAt K mg "Priced" D.cPr D.prInit "Priced.__init__" sPrInit
  cRi : ClsAt K mg "Ring" D.cRi D.riInit "Ring.__init__" sRiInit
  cSe : ClsAt K mg "Settled" D.cSe D.seInit "Settled.__init__" sSeInit
  prPrices : NoAttr K D.cPr "prices"
  riPeople : NoAttr K D.cRi "people"
  seRooms : NoAttr K D.cSe "rooms"
  sePrices : NoAttr K D.cSe "prices"
  prShows : Meth K D.cPr "shows" D.prShows
  riShows : Meth K D.cRi "shows" D.riShows
  seShows : Meth K D.cSe "shows" D.seShows
  prShowsF : ∃ fd, Fun K "shows" "Priced.shows" sPrShows D.prShows fd
  riShowsF : ∃ fd, Fun K "shows" "Ring.shows" sRiShows D.riShows fd
  seShowsF : ∃ fd, Fun K "shows" "Settled.shows" sSeShows D.seShows fd
  cget : PySem.W.specialIn K (.builtin "object.__class__") "__get__" = some (some (.builtin "getset_descriptor.__get__"))
  ctk : PySem.W.takesIn K (.builtin "object.__class__") = some true
  isPrPr : PySem.W.kitOne K (.ref D.cPr) (.ref D.cPr) = some true
  isRiPr : PySem.W.kitOne K (.ref D.cRi) (.ref D.cPr) = some false
  isPrRi : PySem.W.kitOne K (.ref D.cPr) (.ref D.cRi) = some false
  isRiRi : PySem.W.kitOne K (.ref D.cRi) (.ref D.cRi) = some true
  gRoE : mg "RoomError" = some (.ref D.cRoomError)
  gNoP : mg "NoPrices" = some (.ref D.cNoPrices)
  xNoP : PySem.W.excIn K D.cNoPrices [.type "ValueError", .type "Exception", .type "BaseException", .type "object"] "ValueError.__new__" = true
  kNoP : PySem.W.keepIn K (.ref D.cNoPrices) = true
  tNoP : PySem.W.typeIn K (.ref D.cNoPrices) = some (.type "type")
  eNoP : ExcC K D.cNoPrices
  mNoP : PySem.W.exmOne K (.ref D.cNoPrices) (.ref D.cRoomError) = some true
  isNoP : PySem.W.kitOne K (.ref D.cNoPrices) (.ref D.cNoPrices) = some true
  gMost : ∃ t, mg "MOST" = some (.int 12 t)
  zIsi : mg "isinstance" = none
  zInt : mg "int" = none
  zBool : mg "bool" = none
  zList : mg "list" = none
  zTuple : mg "tuple" = none
  zStr : mg "str" = none
  zLen : mg "len" = none
  zAll : mg "all" = none
  zSorted : mg "sorted" = none
  zRange : mg "range" = none
  zSum : mg "sum" = none
  zEnum : mg "enumerate" = none
  zZip : mg "zip" = none
  zMax : mg "max" = none
  zMin : mg "min" = none
  zSet : mg "set" = none
  zAbs : mg "abs" = none
/-! ### a def's promise, with how its arguments bind -/
structure Prom (P : Program) (w : World) (K : PySem.W.Frag) (mg : Str → Option Value) (base : Heap) (k : Nat) (f : Addr) (ps : List Str) (sp : Sp) : Prop where
  ex : ∃ fd, FnOk P w K mg base CX0 k f fd ps sp ∧ Binds K fd ps []
  kp : PySem.W.keepIn K (.ref f) = true
section
variable {X : Cx} {k : Nat} {f : Addr} {ps : List Str} {sp : Sp} {x : Str} {p pos : Pos} {e : PySem.Expr} {es : List PySem.Expr} {t : TA}
theorem pe_cl (G : Prom X.prog X.w X.K X.mg X.base k f ps sp) (hr : Room k X.A) (hm : X.mg x = some (.ref f)) (ha : PA X (e :: es) t) (hg : Gl X x := by rfl) (hdb : (x == ("__debug__" : Str)) = false := by decide)
    (he : starEach (e :: es) X.env = (false, eval e X.env) :: starEach es X.env := by rfl) (hpl : (backTo pos (starEach es X.env)).any (·.1) = false := by rfl) : PE X (.Call (.Name x p) (e :: es) [] pos) (tCall sp [] E0 t) := by
  obtain ⟨⟨fd, F, b⟩, kp⟩ := G
  exact pe_call F hr hg hm kp b .nil pass0 ha hdb he hpl
theorem pe_mk {C : Addr} (M : Mk X.K C f) (G : Prom X.prog X.w X.K X.mg X.base k f ps sp) (hr : Room (k + 1) X.A) (hm : X.mg x = some (.ref C)) (ha : PA X (e :: es) t) (hg : Gl X x := by rfl) (hdb : (x == ("__debug__" : Str)) = false := by decide)
    (he : starEach (e :: es) X.env = (false, eval e X.env) :: starEach es X.env := by rfl) (hpl : (backTo pos (starEach es X.env)).any (·.1) = false := by rfl) : PE X (.Call (.Name x p) (e :: es) [] pos) (tMake C sp [] E0 t) := by
  obtain ⟨⟨fd, F, b⟩, kp⟩ := G
  exact pe_make M F hr hg hm b .nil pass0 ha hdb he hpl
/-- two readings of one expression -/
def tAlt (t u : TE) : TE := fun σ H Q => t σ H Q ∨ u σ H Q
theorem pe_alt {e : PySem.Expr} {t u : TE} (ht : PE X e t) (hu : PE X e u) : PE X e (tAlt t u) :=
  ⟨fun pins s σ H Q I h => h.elim (ht.run pins s σ H Q I) (hu.run pins s σ H Q I)⟩
end
/-! ### tests -/
theorem iteNF {c A B : Prop} [Decidable c] (hc : ¬ c) (h : A) : if (!decide c) = true then A else B := by
  rw [decide_eq_false hc]
  exact iteT h
theorem iteDT {c A B : Prop} [Decidable c] (hc : c) (h : A) : if decide c = true then A else B := by
  rw [decide_eq_true hc]
  exact iteT h
theorem iteDF {c A B : Prop} [Decidable c] (hc : ¬ c) (h : B) : if decide c = true then A else B := by
  rw [decide_eq_false hc]
  exact iteF h
theorem vint_ne {a b : Int} (h : ¬ a = b) : ¬ V.int a = V.int b := fun q => h (by injection q)
/-! ### rules over K (their readings name no context) -/
def rLenK (K : PySem.W.Frag) : List V → Hp → VK → Prop := fun xs H Q => ∃ p ys, xs = [.ref p] ∧ (SqL K H p ys ∨ SqT K H p ys) ∧ Q (V.int ys.length) H
theorem lenK {X : Cx} (K : PySem.W.Frag) (hK : X.K = K := by rfl) : CallR X (.builtin "len") (rLenK K) := by
  subst hK
  exact call_len_seq
theorem ixK {X : Cx} (K : PySem.W.Frag) (hK : X.K = K := by rfl) : IxR X (rIxL K) := by
  subst hK
  exact ix_list
theorem listK {X : Cx} {tg l : PySem.Expr} {tl : TE} (K : PySem.W.Frag) (hl : PE X l tl) (hK : X.K = K := by rfl) : PI X tg l (iList K tl) := by
  subst hK
  exact pi_list hl
theorem isiK {X : Cx} (K : PySem.W.Frag) (hK : X.K = K := by rfl) : CallR X (.builtin "isinstance") (rIsi K) := by
  subst hK
  exact call_isi
theorem notInK {X : Cx} (K : PySem.W.Frag) (hK : X.K = K := by rfl) : OpR X (compareOp .NotIn) (rIn K true) := by
  subst hK
  exact op_notIn_seq
theorem tupK {X : Cx} {es : List PySem.Expr} {k : Nat} {t : TGs} {n : Nat} {pos : Pos} (K : PySem.W.Frag) (hc : X.calm = true) (h : PGs X es t) (hn : (assignEach es X.env).length = n := by rfl)
    (hst : (assignEach es X.env).findIdx? (·.1) = none := by rfl) (hK : X.K = K := by rfl) : PG X (.Tuple es k pos) (gTup K n t) := by
  subst hK
  exact pg_tup hc h hn hst
/-! ### heaps -/
abbrev iv (ns : List Int) : List V := ns.map V.int
abbrev nv (ns : List Nat) : List V := ns.map fun i : Nat => V.int (i : Int)
theorem nv_iv (ns : List Nat) : nv ns = iv (ns.map fun i : Nat => (i : Int)) := by unfold nv iv; rw [List.map_map]; rfl
/-- a table stands at a -/
def Tab (H : Hp) (a : Addr) (T : List (List Int)) : Prop := ∃ rs : List Addr, H a = some (.lst (rs.map V.ref)) ∧ rs.length = T.length ∧ ∀ (i : Nat) (r : Addr) (row : List Int), rs[i]? = some r → T[i]? = some row → H r = some (.lst (iv row))
theorem Tab.same {H H' : Hp} {a : Addr} {T : List (List Int)} (h : Tab H a T) (s : Same H H') : Tab H' a T := by
  obtain ⟨rs, h1, h2, h3⟩ := h
  exact ⟨rs, s _ _ h1, h2, fun i r row a b => s _ _ (h3 i r row a b)⟩
/-- 1 to 12 rows of as many -/
structure IsTab (T : List (List Int)) : Prop where
  pos : 1 ≤ T.length
  most : T.length ≤ 12
  sq : ∀ r ∈ T, r.length = T.length
theorem IsTab.isSq {T : List (List Int)} (h : IsTab T) : IsSq T.length T := ⟨rfl, h.sq⟩
theorem same_new {H : Hp} {p : Addr} {o : HO} (h : H p = none) : Same H (upd H p o) := fun b x e => by
  rw [upd_ne (ne_of_none e h)]
  exact e
theorem sameNew {H H' : Hp} {p : Addr} {o : HO} (s : Same H H') (h : H' p = none) : Same H (upd H' p o) := s.trans (same_new h)
/-- a list grown at a new place p: all that stood stands -/
theorem samePut {H H' : Hp} {p : Addr} {o : HO} (s : Same H H') (h : H p = none) : Same H (upd H' p o) := fun b x e => by
  rw [upd_ne (ne_of_none e h)]
  exact s b x e
theorem len_iv (ns : List Int) : (iv ns).length = ns.length := List.length_map ..
theorem len_nv (ns : List Nat) : (nv ns).length = ns.length := List.length_map ..
theorem get_iv {ns : List Int} {i : Nat} (h : i < ns.length) : (iv ns)[i]? = some (V.int (gI ns i)) := by
  rw [List.getElem?_map, get_of_lt (d := 0) h]; rfl
theorem get_nv {ns : List Nat} {i : Nat} (h : i < ns.length) : (nv ns)[i]? = some (V.int ((gN ns i : Nat) : Int)) := by
  rw [List.getElem?_map, get_of_lt (d := 0) h]; rfl
theorem at_iv {ns : List Int} {i : Nat} (h : i < ns.length) : atI (iv ns) (i : Int) = some (V.int (gI ns i)) := atI_nat (get_iv h)
theorem at_nv {ns : List Nat} {i : Nat} (h : i < ns.length) : atI (nv ns) (i : Int) = some (V.int ((gN ns i : Nat) : Int)) := atI_nat (get_nv h)
theorem get_ref {rs : List Addr} {i : Nat} (h : i < rs.length) : (rs.map V.ref)[i]? = some (V.ref rs[i]) := by
  rw [List.getElem?_map, List.getElem?_eq_getElem h]; rfl
theorem at_ref {rs : List Addr} {i : Nat} (h : i < rs.length) : atI (rs.map V.ref) (i : Int) = some (V.ref rs[i]) := atI_nat (get_ref h)
theorem is_of {o : Option V} {x y : V} (h1 : o = some x) (h2 : o = some y) : x = y := Option.some.inj (h1.symm.trans h2)
theorem ixN_lt {n j : Nat} (h : j < n) : ixN n (j : Int) = some j := by
  unfold ixN
  rw [if_pos (by omega : (0 : Int) ≤ j), if_pos (by omega : (j : Int) < n)]
  rfl
theorem rep_flat {α : Type} (x : α) : ∀ n : Nat, (List.replicate n [x]).flatten = List.replicate n x
  | 0 => rfl
  | n + 1 => by
    rw [List.replicate_succ, List.flatten_cons, rep_flat x n, List.replicate_succ]
    rfl
theorem set_iv (L : List Int) (i : Nat) (x : Int) : (iv L).set i (V.int x) = iv (L.set i x) := List.map_set.symm
theorem set_nv (L : List Nat) (i x : Nat) : (nv L).set i (V.int (x : Int)) = nv (L.set i x) := List.map_set.symm
theorem rep_nv (n : Nat) : List.replicate n (V.int 0) = nv (List.replicate n 0) := by
  unfold nv
  rw [List.map_replicate]; rfl
theorem rep_iv (n : Nat) : List.replicate n (V.int 0) = iv (List.replicate n 0) := by
  unfold iv
  rw [List.map_replicate]
/-- the scope of a comprehension that a statement returns -/
def lcScope : PySem.Expr → Scope
  | .ListComp _ _ sc _ => sc
  | _ => { kind := .function, names := [], isGenerator := false, isCoroutine := false }
def retOf : Stmt → PySem.Expr
  | .Return (some e) _ => e
  | _ => .Constant .none 0 ⟨0, 0, 0, 0⟩
theorem take_iv {L : List Int} {i : Nat} (h : i < L.length) : (iv L).take (i + 1) = (iv L).take i ++ [V.int (gI L i)] := by
  rw [List.take_add_one, get_iv h]; rfl
theorem take_nv {L : List Nat} {i : Nat} (h : i < L.length) : (nv L).take (i + 1) = (nv L).take i ++ [V.int ((gN L i : Nat) : Int)] := by
  rw [List.take_add_one, get_nv h]; rfl
theorem take_lt {xs : List V} {i : Nat} (h : i ≤ 1000) : (xs.take i).length < sizeLine := by
  rw [List.length_take]
  exact small1000 (Nat.le_trans (Nat.min_le_left _ _) h)
end RP
namespace RP
open PySem PySem.Spec PyProof.Rows L2
section
variable {P : Program} {w : World} {K : PySem.W.Frag} {mg : Str → Option Value} {base : Heap} {D : Adr}
/-! ### is_number -/
def spIsNum : Sp := fun vs H Q _ => ∃ i : Int, vs = [.int i] ∧ Q (.bl true) H
theorem scIsNum : FnScope ["thing"] ["thing"] (defScope sIsNum) := ⟨rfl, rfl, rfl, by decide +kernel, rfl, by decide +kernel, by decide +kernel⟩
theorem ok_isNum (T : Txt K mg D) : Prom P w K mg base 1 D.isNum ["thing"] spIsNum := by
  obtain ⟨fd, F⟩ := T.isNum.fn
  refine ⟨⟨fd, ?_, F.binds fun _ _ _ _ _ _ us hl => match us, hl with | [_], _ => rfl⟩, F.kp⟩
  refine F.ok scIsNum (fun vs H Q E h => ?_) (fun cdv A outer s H vs Q E hr h => ?_)
  · obtain ⟨i, rfl, _⟩ := h
    rfl
  · obtain ⟨i, rfl, k⟩ := h
    refine ⟨_, pss_one (ps_ret (pe_and (pe_callB call_isi (by rfl) T.zIsi (by decide +kernel) (pa_cons (pv 0) (pa_cons (pe_bltn (v := .ty "int") (by rfl) T.zInt (by decide +kernel) rfl) pa_nil)))
      (pe_one (pe_not (pe_callB call_isi (by rfl) T.zIsi (by decide +kernel) (pa_cons (pv 0) (pa_cons (pe_bltn (v := .ty "bool") (by rfl) T.zBool (by decide +kernel) rfl) pa_nil))))))), ?_⟩
    refine ⟨_, rfl, _, _, _, _, true, rfl, .ty _, .base (.int _), kit_ty (by decide +kernel), true, rfl, iteT ?_⟩
    exact ⟨_, rfl, _, _, _, _, false, rfl, .ty _, .base (.int _), kit_ty (by decide +kernel), false, rfl, k⟩
/-! ### are_numbers -/
def spAreNum : Sp := fun vs H Q _ => ∃ (a : Addr) (ns : List Int), vs = [.ref a, .int (ns.length : Nat)] ∧ H a = some (.lst (iv ns)) ∧ ns.length ≤ 1000 ∧ ∀ H', Same H H' → Q (.bl true) H'
theorem scAreNum : FnScope ["thing", "many", "one"] ["thing", "many"] (defScope sAreNum) := ⟨rfl, rfl, rfl, by decide +kernel, rfl, by decide +kernel, by decide +kernel⟩
theorem all_rep (n : Nat) : (List.replicate n true).all id = true := by
  rw [List.all_replicate]; simp
theorem ok_areNum (T : Txt K mg D) : Prom P w K mg base 2 D.areNum ["thing", "many"] spAreNum := by
  obtain ⟨fd, F⟩ := T.areNum.fn
  have G := ok_isNum (P := P) (w := w) (base := base) T
  refine ⟨⟨fd, ?_, F.binds fun _ _ _ _ _ _ us hl => match us, hl with | [_, _], _ => rfl⟩, F.kp⟩
  refine F.ok scAreNum (fun vs H Q E h => ?_) (fun cdv A outer s H vs Q E hr h => ?_)
  · obtain ⟨a, ns, rfl, _⟩ := h
    rfl
  · obtain ⟨a, ns, rfl, ha, hl, k⟩ := h
    refine ⟨_, pss_one (ps_ret (pe_and (pe_callB call_isi (by rfl) T.zIsi (by decide +kernel) (pa_cons (pv 0) (pa_cons (pe_bltn (v := .ty "list") (by rfl) T.zList (by decide +kernel) rfl) pa_nil)))
      (pe_and (pe_cmpR op_eq (pe_callB call_len_seq (by rfl) T.zLen PySem.boot_len (pa_cons (pv 0) pa_nil)) (pv 1) (nomark _))
      (pe_one (pe_callB (cr_all rfl) (by rfl) T.zAll (by decide +kernel) (pa_cons (pe_lc (own := [("one", 2)]) (g := gName 2) (tt := tYes) rfl scAreNum.nd (pi_list (pv 0))
        (blkOk_by (N := ["thing", "many", "one"]) (sc := defScope sAreNum) (by decide +kernel)) (fun _ _ _ _ _ => pg_name (i := 2) scAreNum.nd rfl (Or.inl rfl)) (fun _ _ _ _ _ => pts_nil)
        (fun _ _ _ _ _ => pe_cl G hr T.isNum.gl (pa_cons (pv 2) pa_nil))) pa_nil)))))), ?_⟩
    refine ⟨_, rfl, _, _, _, _, true, rfl, .ty _, .base (.lst ha), kit_ty (by decide +kernel), true, rfl, iteT ?_⟩
    refine ⟨_, rfl, _, _, rfl, .inl (SqL.of ha), _, rfl, rfl, true, ?_, iteT ?_⟩
    · rw [len_iv]
      exact congrArg V.bl (decide_eq_true rfl)
    refine ⟨_, rfl, a, rfl, ⟨_, SqL.of ha⟩, fun D new => lc_list (K := K) (a := a) (xs := iv ns) (fun i H' => Same H H' ∧ H' D = some (.lst (List.replicate i (V.bl true)))) ⟨same_new new, upd_same⟩ (fun i H' _ h => SqL.of (h.1 _ _ ha)) ?_ ?_⟩
    · rintro i x H' hx ⟨s1, hD⟩
      have hi : i < ns.length := by have := (List.getElem?_eq_some_iff.mp hx).1; rwa [len_iv] at this
      rw [get_iv hi] at hx
      obtain rfl := Option.some.inj hx
      refine ⟨rfl, _, rfl, _, rfl, List.replicate i (V.bl true), hD, ?_, ?_⟩
      · rw [List.length_replicate]
        exact small1000 (by omega)
      · exact ⟨samePut s1 new, by rw [upd_same, List.replicate_succ']⟩
    · rintro H' ⟨s1, hD⟩
      refine ⟨D, List.replicate ns.length true, rfl, SqL.of (hD.trans ?_), ?_⟩
      · rw [len_iv, List.map_replicate]
      · rw [all_rep]
        exact k _ s1
end
end RP
namespace RP
open PySem PySem.Spec PyProof.Rows L2
/-! ### == of lists of whole numbers -/
abbrev dI (ns : List Int) : PyData := .list (ns.map PyData.int)
theorem dpAll_iv {K : PySem.W.Frag} {H : Hp} : ∀ ns : List Int, DpAll K H (iv ns) (ns.map PyData.int)
  | [] => .nil
  | n :: ns => .cons (.int n) (dpAll_iv ns)
theorem dp_iv {K : PySem.W.Frag} {H : Hp} {a : Addr} {ns : List Int} (h : H a = some (.lst (iv ns))) : Dp K H (.ref a) (dI ns) := .lst (SqL.of h) (dpAll_iv ns)
theorem canLay_ints : ∀ ns : List Int, PyData.canLayAll0 (ns.map PyData.int) = true
  | [] => rfl
  | n :: ns => by
    show (PyData.canLay0 (.int n) && PyData.canLayAll0 (ns.map PyData.int)) = true
    rw [canLay_ints ns]
    rfl
theorem depth_ints : ∀ ns : List Int, PyData.depthAll (ns.map PyData.int) ≤ 1
  | [] => by simp [PyData.depthAll]
  | n :: ns => by
    have ih := depth_ints ns
    simp only [List.map_cons, PyData.depthAll, PyData.depth]
    omega
theorem shaped_dI (ns : List Int) : SeqAt.shaped (dI ns) = true := by
  have h1 := canLay_ints ns
  have h2 := depth_ints ns
  unfold SeqAt.shaped
  have e1 : PyData.canLay0 (dI ns) = true := h1
  have e2 : PyData.depth (dI ns) ≤ 64 := by
    simp only [PyData.depth]
    omega
  rw [e1, decide_eq_true e2]
  rfl
theorem eqv_ints : ∀ a b : List Int, PyData.eqvAll (a.map PyData.int) (b.map PyData.int) = decide (a = b)
  | [], [] => by simp [PyData.eqvAll]
  | [], y :: ys => by simp [PyData.eqvAll]
  | x :: xs, [] => by simp [PyData.eqvAll]
  | x :: xs, y :: ys => by
    have ih := eqv_ints xs ys
    simp only [List.map_cons, PyData.eqvAll, PyData.eqv, ih]
    by_cases h1 : x = y
    · subst h1
      by_cases h2 : xs = ys
      · subst h2; simp
      · simp [h2]
    · simp [h1]
theorem eqv_dI (a b : List Int) : PyData.eqv (dI a) (dI b) = decide (a = b) := by
  show PyData.eqvAll (a.map PyData.int) (b.map PyData.int) = _
  exact eqv_ints a b
theorem rgV_eq (n : Nat) : rgV 0 (n : Int) = iv ((List.range n).map fun i : Nat => (i : Int)) := by
  unfold rgV iv
  rw [List.map_map]
  have e : ((n : Int) - 0).toNat = n := by omega
  rw [e]
  refine List.map_congr_left fun i _ => ?_
  show V.int (0 + (i : Int)) = V.int (i : Int)
  rw [Int.zero_add]
theorem rgV_eq1 (n : Nat) : rgV 1 ((n : Int) + 1) = nv ((List.range n).map (· + 1)) := by
  unfold rgV nv
  rw [List.map_map]
  have e : ((n : Int) + 1 - 1).toNat = n := by omega
  rw [e]
  refine List.map_congr_left fun i _ => ?_
  show V.int (1 + (i : Int)) = V.int (((i + 1 : Nat)) : Int)
  congr 1
  omega
theorem range_pairwise (n : Nat) : ((List.range n).map fun i : Nat => (i : Int)).Pairwise (· ≤ ·) := by
  rw [List.pairwise_map]
  refine List.Pairwise.imp ?_ (List.pairwise_lt_range (n := n))
  intro a b h
  omega
/-- a giving in order is the range -/
theorem sorted_giving {n : Nat} {g : List Nat} (G : Giving n g) {ns : List Int} (hp : ns.Perm (g.map fun i : Nat => (i : Int))) (hs : ns.Pairwise (· ≤ ·)) : ns = (List.range n).map fun i : Nat => (i : Int) := by
  have h1 : ns.Perm ((List.range n).map fun i : Nat => (i : Int)) := hp.trans (G.perm.map _)
  exact List.Perm.eq_of_pairwise (le := (· ≤ ·)) (fun a b _ _ h1 h2 => Int.le_antisymm h1 h2) hs (range_pairwise n) h1
section
variable {P : Program} {w : World} {K : PySem.W.Frag} {mg : Str → Option Value} {base : Heap} {D : Adr}
/-! ### asked_table -/
def spAskT : Sp := fun vs H Q _ => ∃ (a : Addr) (T : List (List Int)), vs = [.ref a] ∧ Tab H a T ∧ IsTab T ∧ ∀ H', Same H H' → Q .non H'
theorem scAskT : FnScope ["table", "row"] ["table"] (defScope sAskT) := ⟨rfl, rfl, rfl, by decide +kernel, rfl, by decide +kernel, by decide +kernel⟩
theorem ok_askT (T : Txt K mg D) : Prom P w K mg base 3 D.askT ["table"] spAskT := by
  obtain ⟨fd, F⟩ := T.askT.fn
  obtain ⟨tk, gM⟩ := T.gMost
  have G := ok_areNum (P := P) (w := w) (base := base) T
  refine ⟨⟨fd, ?_, F.binds fun _ _ _ _ _ _ us hl => match us, hl with | [_], _ => rfl⟩, F.kp⟩
  refine F.ok scAskT (fun vs H Q E h => ?_) (fun cdv A outer s H vs Q E hr h => ?_)
  · obtain ⟨a, TT, rfl, _⟩ := h
    rfl
  · obtain ⟨a, TT, rfl, ⟨rs, ha, hrl, hrow⟩, ht, k⟩ := h
    refine ⟨_, pss_cons (ps_if (PW.pt (pw_or (pt_not (pt_val (pe_callB call_isi (by rfl) T.zIsi (by decide +kernel) (pa_cons (pv 0) (pa_cons (pe_bltn (v := .ty "list") (by rfl) T.zList (by decide +kernel) rfl) pa_nil)))))
        (pw_or1 (pt_not (pt_chain op_le op_le pe_int (pe_callB call_len_seq (by rfl) T.zLen PySem.boot_len (pa_cons (pv 0) pa_nil)) (pe_glob (v := .int 12) (by rfl) gM ⟨_, rfl⟩)))))) (pss_one ps_never) pss_nil)
      (pss_one (ps_if (pt_not (pt_val (pe_callB (cr_all rfl) (by rfl) T.zAll (by decide +kernel) (pa_cons (pe_lc (own := [("row", 1)]) (g := gName 1) (tt := tYes) rfl scAskT.nd (pi_list (pv 0))
        (blkOk_by (N := ["table", "row"]) (sc := defScope sAskT) (by decide +kernel)) (fun _ _ _ _ _ => pg_name (i := 1) scAskT.nd rfl (Or.inl rfl)) (fun _ _ _ _ _ => pts_nil)
        (fun _ _ _ _ _ => pe_cl G hr T.areNum.gl (pa_cons (pv 1) (pa_cons (pe_callB (lenK K) (by rfl) T.zLen PySem.boot_len (pa_cons (pv 0) pa_nil)) pa_nil)))) pa_nil)))) (pss_one ps_never) pss_nil)), ?_⟩
    have hp := ht.pos
    have hm := ht.most
    refine ⟨_, rfl, _, _, _, _, true, rfl, .ty _, .base (.lst ha), kit_ty (by decide +kernel), true, rfl, iteF ?_⟩
    refine ⟨_, rfl, _, _, rfl, .inl (SqL.of ha), _, _, rfl, rfl, true, ?_, iteT ?_⟩
    · rw [List.length_map, hrl]
      exact congrArg V.bl (decide_eq_true (by omega))
    refine ⟨_, _, rfl, rfl, true, ?_, iteF ?_⟩
    · rw [List.length_map, hrl]
      exact congrArg V.bl (decide_eq_true (by omega))
    refine ⟨_, rfl, a, rfl, ⟨_, SqL.of ha⟩, fun D new => lc_list (K := K) (a := a) (xs := rs.map V.ref) (fun i H' => Same H H' ∧ H' D = some (.lst (List.replicate i (V.bl true)))) ⟨same_new new, upd_same⟩ (fun i H' _ h => SqL.of (h.1 _ _ ha)) ?_ ?_⟩
    · rintro i x H' hx ⟨s1, hD⟩
      have hi : i < rs.length := by have := (List.getElem?_eq_some_iff.mp hx).1; rwa [List.length_map] at this
      rw [List.getElem?_map, List.getElem?_eq_getElem hi] at hx
      obtain rfl := Option.some.inj hx
      have hi2 : i < TT.length := by omega
      have hr1 := s1 _ _ (hrow i rs[i] TT[i] (List.getElem?_eq_getElem hi) (List.getElem?_eq_getElem hi2))
      have hl : TT[i].length = TT.length := ht.sq _ (List.getElem_mem hi2)
      refine ⟨rfl, _, rfl, _, rfl, _, _, rfl, .inl (SqL.of (s1 _ _ ha)), rs[i], TT[i], ?_, hr1, by omega, fun H2 s2 => ⟨List.replicate i (V.bl true), s2 _ _ hD, ?_, ?_⟩⟩
      · rw [List.length_map, hrl, hl]; rfl
      · rw [List.length_replicate]
        exact small1000 (by omega)
      · exact ⟨samePut (s1.trans s2) new, by rw [upd_same, List.replicate_succ']⟩
    · rintro H' ⟨s1, hD⟩
      refine ⟨D, List.replicate rs.length true, rfl, SqL.of (hD.trans ?_), _, rfl, ?_⟩
      · rw [List.length_map, List.map_replicate]
      · rw [all_rep]
        exact iteF (k _ s1)
/-! ### asked_rent -/
def spAskR : Sp := fun vs H Q _ => ∃ i : Int, vs = [.int i] ∧ Q .non H
theorem scAskR : FnScope ["rent"] ["rent"] (defScope sAskR) := ⟨rfl, rfl, rfl, by decide +kernel, rfl, by decide +kernel, by decide +kernel⟩
theorem ok_askR (T : Txt K mg D) : Prom P w K mg base 2 D.askR ["rent"] spAskR := by
  obtain ⟨fd, F⟩ := T.askR.fn
  have G := ok_isNum (P := P) (w := w) (base := base) T
  refine ⟨⟨fd, ?_, F.binds fun _ _ _ _ _ _ us hl => match us, hl with | [_], _ => rfl⟩, F.kp⟩
  refine F.ok scAskR (fun vs H Q E h => ?_) (fun cdv A outer s H vs Q E hr h => ?_)
  · obtain ⟨i, rfl, _⟩ := h
    rfl
  · obtain ⟨i, rfl, k⟩ := h
    refine ⟨_, pss_one (ps_if (pt_not (pt_val (pe_cl G hr T.isNum.gl (pa_cons (pv 0) pa_nil)))) (pss_one ps_never) pss_nil), ?_⟩
    exact ⟨_, rfl, i, rfl, true, rfl, iteF k⟩
/-! ### asked_giving -/
def spAskG : Sp := fun vs H Q _ => ∃ (a b : Addr) (T : List (List Int)) (g : List Nat), vs = [.ref a, .ref b] ∧ Tab H a T ∧ IsTab T ∧ H b = some (.lst (nv g)) ∧ Giving T.length g ∧ ∀ H', Same H H' → Q .non H'
theorem scAskG : FnScope ["table", "giving"] ["table", "giving"] (defScope sAskG) := ⟨rfl, rfl, rfl, by decide +kernel, rfl, by decide +kernel, by decide +kernel⟩
theorem ok_askG (T : Txt K mg D) : Prom P w K mg base 3 D.askG ["table", "giving"] spAskG := by
  obtain ⟨fd, F⟩ := T.askG.fn
  have G := ok_areNum (P := P) (w := w) (base := base) T
  refine ⟨⟨fd, ?_, F.binds fun _ _ _ _ _ _ us hl => match us, hl with | [_, _], _ => rfl⟩, F.kp⟩
  refine F.ok scAskG (fun vs H Q E h => ?_) (fun cdv A outer s H vs Q E hr h => ?_)
  · obtain ⟨a, b, TT, g, rfl, _⟩ := h
    rfl
  · obtain ⟨a, b, TT, g, rfl, ⟨rs, ha, hrl, hrow⟩, ht, hb, hg, k⟩ := h
    refine ⟨_, pss_one (ps_if (PW.pt (pw_or (pt_not (pt_val (pe_cl G hr T.areNum.gl (pa_cons (pv 1) (pa_cons (pe_callB call_len_seq (by rfl) T.zLen PySem.boot_len (pa_cons (pv 0) pa_nil)) pa_nil)))))
        (pw_or1 (pt_cmpR (op_neD hr.units) (pe_callB cr_sortedI (by rfl) T.zSorted (by decide +kernel) (pa_cons (pv 1) pa_nil))
          (pe_listRg rfl (by rfl) T.zList (prg_1 (by rfl) T.zRange (pe_callB call_len_seq (by rfl) T.zLen PySem.boot_len (pa_cons (pv 0) pa_nil)))) (nomark _))))) (pss_one ps_never) pss_nil), ?_⟩
    have hp := ht.pos
    have hm := ht.most
    have hb' : H b = some (.lst (iv (g.map fun i : Nat => (i : Int)))) := by rw [← nv_iv]; exact hb
    refine ⟨_, rfl, _, rfl, _, _, rfl, .inl (SqL.of ha), b, g.map fun i : Nat => (i : Int), ?_, hb', by rw [List.length_map, hg.len]; omega, fun H1 s1 => ⟨true, rfl, iteF ?_⟩⟩
    · rw [List.length_map, List.length_map, hrl, hg.len]; rfl
    refine ⟨_, rfl, b, _, rfl, SqL.of (s1 _ _ hb'), fun ns p hperm hsort np => ?_⟩
    have s2 := sameNew (o := .lst (iv ns)) s1 np
    refine ⟨_, rfl, _, _, rfl, .inl (SqL.of (s2 _ _ ha)), _, rfl, ?_, fun q nq => ?_⟩
    · rw [List.length_map, hrl]
      exact RgOk.of_le (by omega) (by omega) (by omega) (by omega)
    have s3 := sameNew (o := .lst (rgV 0 ((rs.map V.ref).length : Nat))) s2 nq
    have e1 : ns = (List.range TT.length).map fun i : Nat => (i : Int) := sorted_giving hg hperm hsort
    have npq : p ≠ q := ne_of_none (upd_same (H := H1) (a := p) (o := .lst (iv ns))) nq
    refine ⟨dI ns, dI ((List.range TT.length).map fun i : Nat => (i : Int)), dp_iv (by rw [upd_ne npq, upd_same]), dp_iv (by rw [upd_same, List.length_map, hrl, rgV_eq]), shaped_dI _, shaped_dI _, false, ?_, iteF (k _ s3)⟩
    rw [eqv_dI, decide_eq_true e1]
    rfl
/-! ### asked_prices -/
def spAskP : Sp := fun vs H Q _ => ∃ (a b : Addr) (T : List (List Int)) (ps : List Int), vs = [.ref a, .ref b] ∧ Tab H a T ∧ IsTab T ∧ H b = some (.lst (iv ps)) ∧ ps.length = T.length ∧ ∀ H', Same H H' → Q .non H'
theorem scAskP : FnScope ["table", "prices"] ["table", "prices"] (defScope sAskP) := ⟨rfl, rfl, rfl, by decide +kernel, rfl, by decide +kernel, by decide +kernel⟩
theorem ok_askP (T : Txt K mg D) : Prom P w K mg base 3 D.askP ["table", "prices"] spAskP := by
  obtain ⟨fd, F⟩ := T.askP.fn
  have G := ok_areNum (P := P) (w := w) (base := base) T
  refine ⟨⟨fd, ?_, F.binds fun _ _ _ _ _ _ us hl => match us, hl with | [_, _], _ => rfl⟩, F.kp⟩
  refine F.ok scAskP (fun vs H Q E h => ?_) (fun cdv A outer s H vs Q E hr h => ?_)
  · obtain ⟨a, b, TT, ps, rfl, _⟩ := h
    rfl
  · obtain ⟨a, b, TT, ps, rfl, ⟨rs, ha, hrl, hrow⟩, ht, hb, hl, k⟩ := h
    refine ⟨_, pss_one (ps_if (pt_not (pt_val (pe_cl G hr T.areNum.gl (pa_cons (pv 1) (pa_cons (pe_callB call_len_seq (by rfl) T.zLen PySem.boot_len (pa_cons (pv 0) pa_nil)) pa_nil))))) (pss_one ps_never) pss_nil), ?_⟩
    have hm := ht.most
    refine ⟨_, rfl, _, rfl, _, _, rfl, .inl (SqL.of ha), b, ps, ?_, hb, by omega, fun H1 s1 => ⟨true, rfl, iteF (k _ s1)⟩⟩
    rw [List.length_map, hrl, hl]; rfl
end
end RP
namespace RP
open PySem PySem.Spec PyProof.Rows L2
theorem leftOf_len {n : Nat} {row ps : List Int} (h : row.length = ps.length) : (leftOf n row ps).length = ps.length := by
  unfold leftOf
  rw [List.length_zipWith, h, Nat.min_self]
theorem leftOf_at {n : Nat} {row ps : List Int} {i : Nat} (h1 : i < row.length) (h2 : i < ps.length) : gI (leftOf n row ps) i = (n : Int) * gI row i - gI ps i := by
  unfold leftOf
  show List.getD _ _ _ = _
  rw [List.getD_eq_getElem?_getD, List.getElem?_zipWith, get_of_lt (d := 0) h1, get_of_lt (d := 0) h2]
  rfl
theorem fitRows_step {n : Nat} {g : List Nat} {ps : List Int} {T : List (List Int)} {i : Nat} (h : i < T.length) : fitRows n g ps i (T.drop i) = if fitRow n g ps i (gR T i) = true then fitRows n g ps (i + 1) (T.drop (i + 1)) else false := by
  rw [List.drop_eq_getElem_cons h]
  have e : T[i] = gR T i := Option.some.inj ((List.getElem?_eq_getElem h).symm.trans (get_of_lt (d := []) h))
  rw [e]
  rfl
section
variable {P : Program} {w : World} {K : PySem.W.Frag} {mg : Str → Option Value} {base : Heap} {D : Adr}
/-! ### are_fit -/
def spAreFit : Sp := fun vs H Q _ => ∃ (a b c : Addr) (T : List (List Int)) (rent : Int) (g : List Nat) (ps : List Int), vs = [.ref a, .int rent, .ref b, .ref c] ∧ Tab H a T ∧ IsTab T ∧ H b = some (.lst (nv g)) ∧ Giving T.length g ∧
  H c = some (.lst (iv ps)) ∧ ps.length = T.length ∧ ∀ H', Same H H' → Q (.bl (areFit T rent g ps)) H'
abbrev nmAreFit : List Str := ["table", "rent", "giving", "prices", "size", "who", "row", "left", "worth", "price"]
theorem scAreFit : FnScope nmAreFit ["table", "rent", "giving", "prices"] (defScope sAreFit) := ⟨rfl, rfl, rfl, by decide +kernel, rfl, by decide +kernel, by decide +kernel⟩
theorem ok_areFit (T : Txt K mg D) : Prom P w K mg base 1 D.areFit ["table", "rent", "giving", "prices"] spAreFit := by
  obtain ⟨fd, F⟩ := T.areFit.fn
  refine ⟨⟨fd, ?_, F.binds fun _ _ _ _ _ _ us hl => match us, hl with | [_, _, _, _], _ => rfl⟩, F.kp⟩
  refine F.ok scAreFit (fun vs H Q E h => ?_) (fun cdv A outer s H vs Q E hr h => ?_)
  · obtain ⟨a, b, c, TT, rent, g, ps, rfl, _⟩ := h
    rfl
  · obtain ⟨a, b, c, TT, rent, g, ps, rfl, ⟨rs, ha, hrl, hrow⟩, ht, hb, hg, hc, hpl, k⟩ := h
    refine ⟨_, pss_cons (ps_set (i := 4) scAreFit.nd rfl (Or.inr rfl) (pe_callB (lenK K) (by rfl) T.zLen PySem.boot_len (pa_cons (pv 0) pa_nil)))
      (pss_cons (ps_if (pt_cmpR op_ne (pe_callB (cr_sum rfl) (by rfl) T.zSum (by decide +kernel) (pa_cons (pv 3) pa_nil)) (pe_op op_mul (pv 4) (pv 1)) (nomark _)) (pss_one (ps_ret pe_bl)) pss_nil)
      (pss_cons (ps_for PassesOwn.never rfl (pi_enum (by rfl) T.zEnum (pa_cons (pv 0) pa_nil)) (pg_tup rfl (pgs_cons (pg_name (i := 5) scAreFit.nd rfl (Or.inl rfl)) (pgs_cons (pg_name (i := 6) scAreFit.nd rfl (Or.inl rfl)) pgs_nil)))
        (pss_cons (ps_setLc (i := 7) (own := [("worth", 8), ("price", 9)]) (g := gTup K 2 (gCons (gName 8) (gCons (gName 9) gNil))) (tt := tYes) rfl scAreFit.nd rfl rfl (sw_true rfl rfl rfl (by decide +kernel))
            (pi_zip (by rfl) T.zZip (pa_cons (pv 6) (pa_cons (pv 3) pa_nil))) (blkOk_by (N := nmAreFit) (sc := defScope sAreFit) (by decide +kernel))
            (fun _ _ _ _ _ => tupK K rfl (pgs_cons (pg_name (i := 8) scAreFit.nd rfl (Or.inl rfl)) (pgs_cons (pg_name (i := 9) scAreFit.nd rfl (Or.inl rfl)) pgs_nil))) (fun _ _ _ _ _ => pts_nil)
            (fun _ _ _ _ _ => pe_op op_sub (pe_op op_mul (pv 4) (pv 8)) (pv 9)))
        (pss_one (ps_if (pt_cmpR op_ne (pe_ix (ixK K) (pv 7) (pe_ix (ixK K) (pv 2) (pv 5) (fun _ _ => rfl)) (fun _ _ => rfl)) (pe_callB (cr_max rfl) (by rfl) T.zMax (by decide +kernel) (pa_cons (pv 7) pa_nil)) (nomark _)) (pss_one (ps_ret pe_bl)) pss_nil))))
      (pss_one (ps_ret pe_bl)))), ?_⟩
    have hp := ht.pos
    have hm := ht.most
    have lenRs : (rs.map V.ref).length = TT.length := by rw [List.length_map, hrl]
    -- size = len(table)
    refine ⟨_, rfl, _, _, rfl, .inl (SqL.of ha), ?_⟩
    rw [lenRs]
    -- if sum(prices) != size * rent
    refine ⟨_, rfl, c, ps, rfl, SqL.of hc, _, rfl, _, rfl, _, _, rfl, rfl, .inl ⟨by omega, by omega⟩, rfl, _, rfl, ?_⟩
    by_cases hs : ¬ ps.sum = (TT.length : Int) * rent
    · refine iteNF (vint_ne hs) ?_
      have e2 : areFit TT rent g ps = false := if_neg hs
      have := k H fun _ _ z => z
      rw [e2] at this
      exact this
    have hs := Classical.not_not.mp hs
    refine iteNS (congrArg V.int hs) ?_
    have e2 : areFit TT rent g ps = fitRows TT.length g ps 0 TT := if_pos hs
    rw [e2] at k
    -- for who, row in enumerate(table)
    refine ⟨_, rfl, a, rs.map V.ref, rfl, SqL.of ha, for_it (walk_enum (K := K) (a := a) (xs := rs.map V.ref)) (fun i σ H' => ∃ (v5 v6 v7 : Option V), σ = [some (.ref a), some (.int rent), some (.ref b), some (.ref c), some (.int (TT.length : Nat)), v5, v6, v7, none, none] ∧ Same H H' ∧
        fitRows TT.length g ps 0 TT = fitRows TT.length g ps i (TT.drop i))
      ⟨none, none, none, rfl, fun _ _ z => z, rfl⟩ (fun i σ H' _ ⟨_, _, _, _, s1, _⟩ => SqL.of (s1 _ _ ha)) ?_ ?_⟩
    · rintro i x σ H' H2 hi ⟨v5, v6, v7, rfl, s1, ef⟩ ⟨Tp, x1, x2, rfl, nT, rfl, f1, f2⟩
      rw [lenRs] at hi
      have hi2 : i < rs.length := by omega
      obtain rfl := Option.some.inj f1
      obtain rfl := is_of f2 (get_ref hi2)
      have s2 := sameNew (o := .tup [V.int (i : Nat), V.ref rs[i]]) s1 nT
      refine ⟨Tp, _, rfl, SqT.of upd_same, rfl, _, _, rfl, _, _, rfl, rfl, ?_⟩
      -- left = [..]
      have hrow1 := hrow i rs[i] (gR TT i) (List.getElem?_eq_getElem hi2) (get_of_lt hi)
      have rowl : (gR TT i).length = TT.length := ht.isSq.row hi
      have lenL : (leftOf TT.length (gR TT i) ps).length = TT.length := by rw [leftOf_len (by omega), hpl]
      refine ⟨_, rfl, _, rfl, rs[i], c, iv (gR TT i), iv ps, rfl, SqL.of (s2 _ _ hrow1), SqL.of (s2 _ _ hc), fun L new => lc_it (walk_zip (K := K) (a := rs[i]) (b := c) (xs := iv (gR TT i)) (ys := iv ps) (n := TT.length) (by rw [len_iv, len_iv]; omega))
        (fun j H3 => Same H H3 ∧ H3 L = some (.lst ((iv (leftOf TT.length (gR TT i) ps)).take j))) ⟨sameNew s2 new, upd_same⟩ (fun j H3 _ h => ⟨SqL.of (h.1 _ _ hrow1), SqL.of (h.1 _ _ hc)⟩) ?_ ?_⟩
      · rintro j y H3 H4 hj ⟨s3, hL⟩ ⟨T2, y1, y2, rfl, nT2, rfl, g1, g2⟩
        obtain rfl := is_of g1 (get_iv (by omega))
        obtain rfl := is_of g2 (get_iv (by omega))
        refine ⟨T2, _, rfl, SqT.of upd_same, rfl, _, _, rfl, _, _, rfl, rfl, rfl, ?_⟩
        refine ⟨_, rfl, _, rfl, _, _, rfl, rfl, .inl ⟨by omega, by omega⟩, _, rfl, _, _, rfl, rfl, (iv (leftOf TT.length (gR TT i) ps)).take j, ?_, take_lt (by omega), ?_⟩
        · rw [upd_ne (ne_of_none hL nT2)]
          exact hL
        · refine ⟨samePut (sameNew s3 nT2) (s2.free new), ?_⟩
          rw [upd_same, take_iv (by omega), leftOf_at (by omega) (by omega)]
      · rintro H3 ⟨s3, hL⟩
        have hL : H3 L = some (.lst (iv (leftOf TT.length (gR TT i) ps))) := by
          rw [hL, List.take_of_length_le (by rw [len_iv]; omega)]
        have gl : gN g i < TT.length := hg.lt i hi
        -- if left[giving[who]] != max(left)
        refine ⟨_, rfl, _, rfl, _, rfl, b, nv g, (i : Int), V.int ((gN g i : Nat) : Int), rfl, rfl, SqL.of (s3 _ _ hb), at_nv (by rw [hg.len]; omega), L, iv (leftOf TT.length (gR TT i) ps), ((gN g i : Nat) : Int), _, rfl, rfl, SqL.of hL, at_iv (by omega), _, rfl, L, leftOf TT.length (gR TT i) ps, rfl, SqL.of hL, by omega, fun m hm1 hm2 => ?_⟩
        have em : maxL (leftOf TT.length (gR TT i) ps) = m := maxL_unique hm1 hm2
        refine ⟨rfl, _, rfl, ?_⟩
        rw [fitRows_step hi] at ef
        by_cases hf : gI (leftOf TT.length (gR TT i) ps) (gN g i) = m
        · refine iteNS (congrArg V.int hf) ⟨_, _, _, rfl, s3, ?_⟩
          rw [ef, if_pos (show fitRow TT.length g ps i (gR TT i) = true from decide_eq_true (hf.trans em.symm))]
        · refine iteNF (vint_ne hf) ?_
          rw [if_neg (show ¬ fitRow TT.length g ps i (gR TT i) = true from fun q => hf ((of_decide_eq_true q).trans em))] at ef
          rw [ef] at k
          exact k _ s3
    · rintro σ H' ⟨v5, v6, v7, rfl, s1, ef⟩
      rw [lenRs, List.drop_length] at ef
      have := k _ s1
      rw [ef] at this
      exact this
end
end RP
namespace RP
open PySem PySem.Spec PyProof.Rows L2
section
variable {P : Program} {w : World} {K : PySem.W.Frag} {mg : Str → Option Value} {base : Heap} {D : Adr}
theorem Prom.mono {k j : Nat} {f : Addr} {ps : List Str} {sp : Sp} (G : Prom P w K mg base k f ps sp) (h : k ≤ j) : Prom P w K mg base j f ps sp := by
  obtain ⟨⟨fd, F, b⟩, kp⟩ := G
  exact ⟨⟨fd, F.mono h, b⟩, kp⟩
/-! ### fit -/
def spFit : Sp := fun vs H Q _ => ∃ (a b c : Addr) (T : List (List Int)) (rent : Int) (g : List Nat) (ps : List Int), vs = [.ref a, .int rent, .ref b, .ref c] ∧ Tab H a T ∧ IsTab T ∧ H b = some (.lst (nv g)) ∧ Giving T.length g ∧
  H c = some (.lst (iv ps)) ∧ ps.length = T.length ∧ ∀ H', Same H H' → Q (.bl (areFit T rent g ps)) H'
theorem scFit : FnScope ["table", "rent", "giving", "prices"] ["table", "rent", "giving", "prices"] (defScope sFit) := ⟨rfl, rfl, rfl, by decide +kernel, rfl, by decide +kernel, by decide +kernel⟩
theorem ok_fit (T : Txt K mg D) : Prom P w K mg base 4 D.fit ["table", "rent", "giving", "prices"] spFit := by
  obtain ⟨fd, F⟩ := T.fit.fn
  have G1 := ok_askT (P := P) (w := w) (base := base) T
  have G2 := (ok_askR (P := P) (w := w) (base := base) T).mono (j := 3) (by decide)
  have G3 := ok_askG (P := P) (w := w) (base := base) T
  have G4 := ok_askP (P := P) (w := w) (base := base) T
  have G5 := (ok_areFit (P := P) (w := w) (base := base) T).mono (j := 3) (by decide)
  refine ⟨⟨fd, ?_, F.binds fun _ _ _ _ _ _ us hl => match us, hl with | [_, _, _, _], _ => rfl⟩, F.kp⟩
  refine F.ok scFit (fun vs H Q E h => ?_) (fun cdv A outer s H vs Q E hr h => ?_)
  · obtain ⟨a, b, c, TT, rent, g, ps, rfl, _⟩ := h
    rfl
  · obtain ⟨a, b, c, TT, rent, g, ps, rfl, ha, ht, hb, hg, hc, hpl, k⟩ := h
    refine ⟨_, pss_cons (ps_expr (pe_cl G1 hr T.askT.gl (pa_cons (pv 0) pa_nil))) (pss_cons (ps_expr (pe_cl G2 hr T.askR.gl (pa_cons (pv 1) pa_nil)))
      (pss_cons (ps_expr (pe_cl G3 hr T.askG.gl (pa_cons (pv 0) (pa_cons (pv 2) pa_nil)))) (pss_cons (ps_expr (pe_cl G4 hr T.askP.gl (pa_cons (pv 0) (pa_cons (pv 3) pa_nil))))
      (pss_one (ps_ret (pe_cl G5 hr T.areFit.gl (pa_cons (pv 0) (pa_cons (pv 1) (pa_cons (pv 2) (pa_cons (pv 3) pa_nil)))))))))), ?_⟩
    refine ⟨_, rfl, a, TT, rfl, ha, ht, fun H1 s1 => ?_⟩
    refine ⟨_, rfl, rent, rfl, ?_⟩
    refine ⟨_, rfl, _, rfl, a, b, TT, g, rfl, ha.same s1, ht, s1 _ _ hb, hg, fun H2 s2 => ?_⟩
    have s12 := s1.trans s2
    refine ⟨_, rfl, _, rfl, a, c, TT, ps, rfl, ha.same s12, ht, s12 _ _ hc, hpl, fun H3 s3 => ?_⟩
    have s13 := s12.trans s3
    exact ⟨_, rfl, _, rfl, _, rfl, _, rfl, a, b, c, TT, rent, g, ps, rfl, ha.same s13, ht, s13 _ _ hb, hg, s13 _ _ hc, hpl, fun H4 s4 => k _ (s13.trans s4)⟩
/-! ### worth -/
abbrev worths (T : List (List Int)) (g : List Nat) : List Int := List.zipWith gI T g
theorem worths_len {T : List (List Int)} {g : List Nat} (h : g.length = T.length) : (worths T g).length = T.length := by
  rw [List.length_zipWith, h, Nat.min_self]
theorem worths_at {T : List (List Int)} {g : List Nat} {i : Nat} (h1 : i < T.length) (h2 : i < g.length) : gI (worths T g) i = gI (gR T i) (gN g i) := by
  show List.getD _ _ _ = _
  rw [List.getD_eq_getElem?_getD, List.getElem?_zipWith, get_of_lt (d := []) h1, get_of_lt (d := 0) h2]
  rfl
def spWorth : Sp := fun vs H Q _ => ∃ (a b : Addr) (T : List (List Int)) (g : List Nat), vs = [.ref a, .ref b] ∧ Tab H a T ∧ IsTab T ∧ H b = some (.lst (nv g)) ∧ Giving T.length g ∧ ∀ H', Same H H' → Q (.int (worth T g)) H'
abbrev nmWorth : List Str := ["table", "giving", "row", "room"]
theorem scWorth : FnScope nmWorth ["table", "giving"] (defScope sWorth) := ⟨rfl, rfl, rfl, by decide +kernel, rfl, by decide +kernel, by decide +kernel⟩
theorem ok_worth (T : Txt K mg D) : Prom P w K mg base 4 D.worth ["table", "giving"] spWorth := by
  obtain ⟨fd, F⟩ := T.worth.fn
  have G1 := ok_askT (P := P) (w := w) (base := base) T
  have G3 := ok_askG (P := P) (w := w) (base := base) T
  refine ⟨⟨fd, ?_, F.binds fun _ _ _ _ _ _ us hl => match us, hl with | [_, _], _ => rfl⟩, F.kp⟩
  refine F.ok scWorth (fun vs H Q E h => ?_) (fun cdv A outer s H vs Q E hr h => ?_)
  · obtain ⟨a, b, TT, g, rfl, _⟩ := h
    rfl
  · obtain ⟨a, b, TT, g, rfl, ha, ht, hb, hg, k⟩ := h
    refine ⟨_, pss_cons (ps_expr (pe_cl G1 hr T.askT.gl (pa_cons (pv 0) pa_nil))) (pss_cons (ps_expr (pe_cl G3 hr T.askG.gl (pa_cons (pv 0) (pa_cons (pv 1) pa_nil))))
      (pss_one (ps_ret (pe_callB (cr_sum rfl) (by rfl) T.zSum (by decide +kernel) (pa_cons (pe_lc (own := [("row", 2), ("room", 3)]) (g := gTup K 2 (gCons (gName 2) (gCons (gName 3) gNil))) (tt := tYes) rfl scWorth.nd
        (pi_zip (by rfl) T.zZip (pa_cons (pv 0) (pa_cons (pv 1) pa_nil))) (blkOk_by (N := nmWorth) (sc := defScope sWorth) (by decide +kernel))
        (fun _ _ _ _ _ => tupK K rfl (pgs_cons (pg_name (i := 2) scWorth.nd rfl (Or.inl rfl)) (pgs_cons (pg_name (i := 3) scWorth.nd rfl (Or.inl rfl)) pgs_nil))) (fun _ _ _ _ _ => pts_nil)
        (fun _ _ _ _ _ => pe_ix (ixK K) (pv 2) (pv 3) (fun _ _ => rfl))) pa_nil))))), ?_⟩
    refine ⟨_, rfl, a, TT, rfl, ha, ht, fun H1 s1 => ?_⟩
    refine ⟨_, rfl, _, rfl, a, b, TT, g, rfl, ha.same s1, ht, s1 _ _ hb, hg, fun H2 s2 => ?_⟩
    have s12 := s1.trans s2
    obtain ⟨rs, hA, hrl, hrow⟩ := ha.same s12
    have hB := s12 _ _ hb
    have hm := ht.most
    have lenW : (worths TT g).length = TT.length := worths_len hg.len
    refine ⟨_, rfl, _, rfl, a, b, rs.map V.ref, nv g, rfl, SqL.of hA, SqL.of hB, fun L new => lc_it (walk_zip (K := K) (a := a) (b := b) (xs := rs.map V.ref) (ys := nv g) (n := TT.length) (by rw [len_nv, List.length_map, hg.len]; omega))
        (fun j H3 => Same H2 H3 ∧ H3 L = some (.lst ((iv (worths TT g)).take j))) ⟨same_new new, upd_same⟩ (fun j H3 _ h => ⟨SqL.of (h.1 _ _ hA), SqL.of (h.1 _ _ hB)⟩) ?_ ?_⟩
    · rintro j y H3 H4 hj ⟨s3, hL⟩ ⟨T2, y1, y2, rfl, nT2, rfl, g1, g2⟩
      have hj2 : j < rs.length := by omega
      obtain rfl := is_of g1 (get_ref hj2)
      obtain rfl := is_of g2 (get_nv (by rw [hg.len]; exact hj))
      have hr1 := hrow j rs[j] (gR TT j) (List.getElem?_eq_getElem hj2) (get_of_lt hj)
      have rl : (gR TT j).length = TT.length := ht.isSq.row hj
      have s4 := sameNew (o := .tup [V.ref rs[j], V.int ((gN g j : Nat) : Int)]) s3 nT2
      refine ⟨T2, _, rfl, SqT.of upd_same, rfl, _, _, rfl, _, _, rfl, rfl, rfl, ?_⟩
      refine ⟨_, rfl, _, rfl, rs[j], iv (gR TT j), _, V.int (gI (gR TT j) (gN g j)), rfl, rfl, SqL.of (s4 _ _ hr1), at_iv (by rw [rl]; exact hg.lt j hj), (iv (worths TT g)).take j, ?_, take_lt (by omega), ?_⟩
      · rw [upd_ne (ne_of_none hL nT2)]
        exact hL
      · refine ⟨samePut s4 new, ?_⟩
        rw [upd_same, take_iv (by omega), worths_at hj (by rw [hg.len]; exact hj)]
    · rintro H3 ⟨s3, hL⟩
      rw [List.take_of_length_le (by rw [len_iv]; omega)] at hL
      exact ⟨L, worths TT g, rfl, SqL.of hL, k _ (s12.trans s3)⟩
end
end RP
namespace RP
open PySem PySem.Spec PyProof.Rows L2
/-- a new table at p, its rows at rs, all new -/
structure NewT (H H' : Hp) (p : Addr) (rs : List Addr) (F : List (List Int)) : Prop where
  top : H' p = some (.lst (rs.map V.ref))
  len : rs.length = F.length
  rows : ∀ (i : Nat) (r : Addr) (row : List Int), rs[i]? = some r → F[i]? = some row → H' r = some (.lst (iv row))
  nd : rs.Nodup
  np : ¬ p ∈ rs
  fresh : ∀ r ∈ rs, H r = none
  freshP : H p = none
theorem NewT.tab {H H' : Hp} {p : Addr} {rs : List Addr} {F : List (List Int)} (h : NewT H H' p rs F) : Tab H' p F := ⟨rs, h.top, h.len, h.rows⟩
theorem owners_upto {n : Nat} {g : List Nat} (hg : g.length = n) : ∀ i, (run (ownersGo g) i (List.replicate n 0)).length = n
  | 0 => by simp [run]
  | i + 1 => by
    show (List.set _ _ _).length = n
    rw [List.length_set]
    exact owners_upto hg i
section
variable {P : Program} {w : World} {K : PySem.W.Frag} {mg : Str → Option Value} {base : Heap} {D : Adr}
/-! ### owners -/
def spOwners : Sp := fun vs H Q _ => ∃ (b : Addr) (g : List Nat), vs = [.ref b] ∧ H b = some (.lst (nv g)) ∧ Giving g.length g ∧ g.length ≤ 12 ∧ ∀ H' p, Same H H' → H p = none → H' p = some (.lst (nv (owners g))) → Q (.ref p) H'
abbrev nmOwners : List Str := ["giving", "found", "who", "room"]
theorem scOwners : FnScope nmOwners ["giving"] (defScope sOwners) := ⟨rfl, rfl, rfl, by decide +kernel, rfl, by decide +kernel, by decide +kernel⟩
theorem ok_owners (T : Txt K mg D) : Prom P w K mg base 1 D.owners ["giving"] spOwners := by
  obtain ⟨fd, F⟩ := T.owners.fn
  refine ⟨⟨fd, ?_, F.binds fun _ _ _ _ _ _ us hl => match us, hl with | [_], _ => rfl⟩, F.kp⟩
  refine F.ok scOwners (fun vs H Q E h => ?_) (fun cdv A outer s H vs Q E hr h => ?_)
  · obtain ⟨b, g, rfl, _⟩ := h
    rfl
  · obtain ⟨b, g, rfl, hb, hg, hl, k⟩ := h
    refine ⟨_, pss_cons (ps_set (i := 1) scOwners.nd rfl (Or.inl rfl) (pe_op op_rep (pe_lst (pa_cons pe_int pa_nil)) (pe_callB (lenK K) (by rfl) T.zLen PySem.boot_len (pa_cons (pv 0) pa_nil))))
      (pss_cons (ps_for PassesOwn.never rfl (pi_enum (by rfl) T.zEnum (pa_cons (pv 0) pa_nil)) (pg_tup rfl (pgs_cons (pg_name (i := 2) scOwners.nd rfl (Or.inl rfl)) (pgs_cons (pg_name (i := 3) scOwners.nd rfl (Or.inl rfl)) pgs_nil)))
        (pss_one (ps_asg (pv 2) (pg_sub (pv 1) (pv 3) set_list))))
      (pss_one (ps_ret (pv 1)))), ?_⟩
    refine ⟨by show 1 ≤ sizeLine; decide, fun l hl0 => ?_⟩
    have s1 := same_new (o := .lst [V.int 0]) hl0
    refine ⟨_, rfl, _, _, rfl, .inl (SqL.of (s1 _ _ hb)), l, _, [V.int 0], rfl, rfl, upd_same, by rw [len_nv]; omega, by rw [len_nv]; omega, ?_, fun p hp => ?_⟩
    · rw [len_nv]
      show 1 * _ ≤ sizeLine
      have : (16 : Nat) ≤ sizeLine := by decide
      omega
    rw [len_nv]
    have s2 := sameNew (o := .lst (List.replicate ((g.length : Nat) : Int).toNat [V.int 0]).flatten) s1 hp
    have hpH : H p = none := s1.free hp
    refine ⟨_, rfl, b, nv g, rfl, SqL.of (s2 _ _ hb), for_it (walk_enum (K := K) (a := b) (xs := nv g)) (fun i σ H' => ∃ (v2 v3 : Option V), σ = [some (.ref b), some (.ref p), v2, v3] ∧ Same H H' ∧ H' p = some (.lst (nv (run (ownersGo g) i (List.replicate g.length 0)))))
      ⟨none, none, rfl, s2, ?_⟩ (fun i σ H' _ ⟨_, _, _, s3, _⟩ => SqL.of (s3 _ _ hb)) ?_ ?_⟩
    · rw [upd_same, rep_flat, Int.toNat_natCast, rep_nv]
      rfl
    · rintro i x σ H' H2 hi ⟨v2, v3, rfl, s3, hp3⟩ ⟨Tp, x1, x2, rfl, nT, rfl, f1, f2⟩
      rw [len_nv] at hi
      obtain rfl := Option.some.inj f1
      obtain rfl := is_of f2 (get_nv hi)
      refine ⟨Tp, _, rfl, SqT.of upd_same, rfl, _, _, rfl, _, _, rfl, rfl, ?_⟩
      have hp4 : upd H' Tp (.tup [V.int (i : Nat), V.int ((gN g i : Nat) : Int)]) p = some (.lst (nv (run (ownersGo g) i (List.replicate g.length 0)))) := by
        rw [upd_ne (ne_of_none hp3 nT)]
        exact hp3
      refine ⟨_, rfl, _, rfl, _, rfl, p, _, _, gN g i, rfl, rfl, hp4, ixN_lt (by rw [len_nv, owners_upto rfl]; exact hg.lt i hi), ?_⟩
      refine ⟨_, _, rfl, samePut (sameNew s3 nT) hpH, ?_⟩
      rw [upd_same, set_nv]
      rfl
    · rintro σ H' ⟨v2, v3, rfl, s3, hp3⟩
      rw [len_nv] at hp3
      exact ⟨_, rfl, k _ p s3 hpH hp3⟩
/-! ### gaps -/
def spGaps : Sp := fun vs H Q _ => ∃ (a b : Addr) (T : List (List Int)) (g : List Nat), vs = [.ref a, .ref b] ∧ Tab H a T ∧ IsTab T ∧ H b = some (.lst (nv g)) ∧ Giving T.length g ∧
  ∀ H' p rs, Same H H' → NewT H H' p rs (gaps T g) → Q (.ref p) H'
abbrev nmGaps : List Str := ["table", "giving", "by", "rooms", "first", "room"]
theorem scGaps : FnScope nmGaps ["table", "giving"] (defScope sGaps) := ⟨rfl, rfl, rfl, by decide +kernel, rfl, by decide +kernel, by decide +kernel⟩
abbrev gapsIn : Scope := relS (lcScope (retOf ((defBody sGaps).getD 2 (.Pass ⟨0, 0, 0, 0⟩)))) (defScope sGaps)
theorem ok_gaps (T : Txt K mg D) : Prom P w K mg base 2 D.gaps ["table", "giving"] spGaps := by
  obtain ⟨fd, F⟩ := T.gaps.fn
  have G1 := ok_owners (P := P) (w := w) (base := base) T
  refine ⟨⟨fd, ?_, F.binds fun _ _ _ _ _ _ us hl => match us, hl with | [_, _], _ => rfl⟩, F.kp⟩
  refine F.ok scGaps (fun vs H Q E h => ?_) (fun cdv A outer s H vs Q E hr h => ?_)
  · obtain ⟨a, b, TT, g, rfl, _⟩ := h
    rfl
  · obtain ⟨a, b, TT, g, rfl, ha, ht, hb, hg, k⟩ := h
    refine ⟨_, pss_cons (ps_set (i := 2) scGaps.nd rfl (Or.inr rfl) (pe_cl G1 hr T.owners.gl (pa_cons (pv 1) pa_nil)))
      (pss_cons (ps_set (i := 3) scGaps.nd rfl (Or.inr rfl) (pe_listRg rfl (by rfl) T.zList (prg_1 (by rfl) T.zRange (pe_callB (lenK K) (by rfl) T.zLen PySem.boot_len (pa_cons (pv 0) pa_nil)))))
      (pss_one (ps_ret (pe_lc (own := [("first", 4)]) (g := gName 4) (tt := tYes) rfl scGaps.nd (pi_list (pv 3)) (blkOk_by (N := nmGaps) (sc := defScope sGaps) (by decide +kernel))
        (fun _ _ _ _ _ => pg_name (i := 4) scGaps.nd rfl (Or.inr rfl)) (fun _ _ _ _ _ => pts_nil)
        (fun _ _ _ _ _ => pe_lc (own := [("room", 5)]) (g := gName 5) (tt := tYes) rfl scGaps.nd (listK K (pv 3)) (blkOk_by (N := nmGaps) (sc := gapsIn) (by decide +kernel))
          (fun _ _ _ _ _ => pg_name (i := 5) scGaps.nd rfl (Or.inl rfl)) (fun _ _ _ _ _ => pts_nil)
          (fun _ _ _ _ _ => pe_op op_sub (pe_ix (ixK K) (pe_ix (ixK K) (pv 0) (pe_ix (ixK K) (pv 2) (pv 5) (fun _ _ => rfl)) (fun _ _ => rfl)) (pv 5) (fun _ _ => rfl))
            (pe_ix (ixK K) (pe_ix (ixK K) (pv 0) (pe_ix (ixK K) (pv 2) (pv 5) (fun _ _ => rfl)) (fun _ _ => rfl)) (pv 4) (fun _ _ => rfl)))))))), ?_⟩
    have hm := ht.most
    have hp0 := ht.pos
    refine ⟨_, rfl, b, g, rfl, hb, by rw [hg.len]; exact hg, by rw [hg.len]; exact hm, fun H1 q s1 nq hq => ?_⟩
    obtain ⟨ts, hA, htl, hrow⟩ := ha.same s1
    refine ⟨_, rfl, _, _, rfl, .inl (SqL.of hA), _, rfl, RgOk.of_le (by omega) (by rw [List.length_map, htl]; omega) (by omega) (by omega), fun l nl => ?_⟩
    rw [List.length_map, htl, rgV_eq]
    have s2 := sameNew (o := .lst (iv ((List.range TT.length).map fun i : Nat => (i : Int)))) (Same.refl H1) nl
    have hL : upd H1 l (.lst (iv ((List.range TT.length).map fun i : Nat => (i : Int)))) l = some (.lst (iv ((List.range TT.length).map fun i : Nat => (i : Int)))) := upd_same
    generalize upd H1 l (.lst (iv ((List.range TT.length).map fun i : Nat => (i : Int)))) = H2 at s2 hL ⊢
    have hq2 := s2 _ _ hq
    have hA2 := s2 _ _ hA
    have lenR : (iv ((List.range TT.length).map fun i : Nat => (i : Int))).length = TT.length := by rw [len_iv, List.length_map, List.length_range]
    have atR : ∀ i, i < TT.length → (iv ((List.range TT.length).map fun i : Nat => (i : Int)))[i]? = some (V.int (i : Nat)) := fun i hi => by
      rw [get_iv (by rw [List.length_map, List.length_range]; exact hi)]
      show some (V.int (List.getD _ _ _)) = _
      rw [gD_mapR hi]
    have ol := hg.owners.1
    refine ⟨_, rfl, l, rfl, ⟨_, SqL.of hL⟩, fun O nO => lc_list (K := K) (a := l) (xs := iv ((List.range TT.length).map fun i : Nat => (i : Int)))
      (fun i H' => Same H2 H' ∧ ∃ rs : List Addr, rs.length = i ∧ H' O = some (.lst (rs.map V.ref)) ∧ rs.Nodup ∧ ¬ O ∈ rs ∧ (∀ r ∈ rs, H2 r = none) ∧ ∀ j r, rs[j]? = some r → H' r = some (.lst (iv (gapRow TT (owners g) j))))
      ⟨same_new nO, [], rfl, upd_same, List.nodup_nil, by simp, by simp, fun j r h => by simp at h⟩ (fun i H' _ h => SqL.of (h.1 _ _ hL)) ?_ ?_⟩
    · rintro i x H3 hx ⟨s3, rs, hrl, hO, hnd, hnO, hfr, hrows⟩
      have hi : i < TT.length := by have := (List.getElem?_eq_some_iff.mp hx).1; rwa [lenR] at this
      obtain rfl := is_of hx (atR i hi)
      refine ⟨rfl, _, rfl, l, rfl, ⟨_, SqL.of (s3 _ _ hL)⟩, fun R nR => lc_list (K := K) (a := l) (xs := iv ((List.range TT.length).map fun i : Nat => (i : Int)))
        (fun j H' => Same H3 H' ∧ H' R = some (.lst ((iv (gapRow TT (owners g) i)).take j))) ⟨same_new nR, upd_same⟩ (fun j H' _ h => SqL.of (h.1 _ _ (s3 _ _ hL))) ?_ ?_⟩
      · rintro j y H4 hy ⟨s4, hR⟩
        have hj : j < TT.length := by have := (List.getElem?_eq_some_iff.mp hy).1; rwa [lenR] at this
        obtain rfl := is_of hy (atR j hj)
        have s24 := s3.trans s4
        have bj : gN (owners g) j < TT.length := hg.byLt hj
        have bj2 : gN (owners g) j < ts.length := by omega
        have hrw := s24 _ _ (s2 _ _ (hrow _ ts[gN (owners g) j] (gR TT (gN (owners g) j)) (List.getElem?_eq_getElem bj2) (get_of_lt bj)))
        have rl : (gR TT (gN (owners g) j)).length = TT.length := ht.isSq.row bj
        refine ⟨rfl, ?_⟩
        refine ⟨_, rfl, _, rfl, _, rfl, q, nv (owners g), _, _, rfl, rfl, SqL.of (s24 _ _ hq2), at_nv (by omega), a, ts.map V.ref, _, _, rfl, rfl, SqL.of (s24 _ _ hA2), at_ref bj2,
          _, rfl, ts[gN (owners g) j], iv (gR TT (gN (owners g) j)), _, _, rfl, rfl, SqL.of hrw, at_iv (i := j) (by omega), ?_⟩
        refine ⟨_, rfl, _, rfl, _, rfl, q, nv (owners g), _, _, rfl, rfl, SqL.of (s24 _ _ hq2), at_nv (by omega), a, ts.map V.ref, _, _, rfl, rfl, SqL.of (s24 _ _ hA2), at_ref bj2,
          _, rfl, ts[gN (owners g) j], iv (gR TT (gN (owners g) j)), _, _, rfl, rfl, SqL.of hrw, at_iv (i := i) (by omega), _, _, rfl, rfl, (iv (gapRow TT (owners g) i)).take j, hR, take_lt (by omega), ?_⟩
        refine ⟨samePut s4 nR, ?_⟩
        have gl : (gapRow TT (owners g) i).length = TT.length := by simp [gapRow]
        have ge : gI (gapRow TT (owners g) i) j = at2 TT (gN (owners g) j) j - at2 TT (gN (owners g) j) i := gD_mapR hj
        rw [upd_same, take_iv (by omega), ge]
      · rintro H4 ⟨s4, hR⟩
        have gl : (gapRow TT (owners g) i).length = TT.length := by simp [gapRow]
        rw [List.take_of_length_le (by rw [len_iv, gl, lenR]; exact Nat.le_refl _)] at hR
        have nRO : O ≠ R := ne_of_none hO nR
        have nR2 : H2 R = none := s3.free nR
        refine ⟨rs.map V.ref, s4 _ _ hO, ?_, ?_⟩
        · rw [List.length_map, hrl]
          exact small1000 (by omega)
        refine ⟨samePut (s3.trans s4) nO, rs ++ [R], by rw [List.length_append, hrl]; rfl, by rw [upd_same, List.map_append]; rfl, ?_, ?_, ?_, ?_⟩
        · refine List.nodup_append.mpr ⟨hnd, by simp, fun x hx y hy => ?_⟩
          rw [List.mem_singleton.mp hy]
          rintro rfl
          obtain ⟨j, hj⟩ := List.mem_iff_getElem?.mp hx
          have := hrows j _ hj
          rw [nR] at this
          cases this
        · rw [List.mem_append, List.mem_singleton]
          rintro (h | h)
          · exact hnO h
          · exact nRO h
        · intro r hr
          rcases List.mem_append.mp hr with h | h
          · exact hfr r h
          · rw [List.mem_singleton.mp h]; exact nR2
        · intro j r hj
          by_cases hjl : j < rs.length
          · rw [List.getElem?_append_left hjl] at hj
            have h1 := s4 _ _ (hrows j r hj)
            have : r ≠ O := fun e => hnO (e ▸ List.mem_of_getElem? hj)
            rw [upd_ne this]
            exact h1
          · have hje : j = rs.length := by
              have := (List.getElem?_eq_some_iff.mp hj).1
              simp at this
              omega
            subst hje
            rw [List.getElem?_append_right (Nat.le_refl _), Nat.sub_self] at hj
            obtain rfl : R = r := Option.some.inj hj
            rw [upd_ne nRO.symm, hrl]
            exact hR
    · rintro H3 ⟨s3, rs, hrl, hO, hnd, hnO, hfr, hrows⟩
      rw [lenR] at hrl
      have s12 := s1.trans s2
      have gl : (gaps TT g).length = TT.length := by simp [gaps]
      refine k H3 O rs (s12.trans s3) ⟨hO, by rw [hrl, gl], fun i r row h1 h2 => ?_, hnd, hnO, fun r hr => s12.free (hfr r hr), s12.free nO⟩
      have hi : i < TT.length := by have := (List.getElem?_eq_some_iff.mp h1).1; omega
      have e : row = gapRow TT (owners g) i := by
        have h3 := get_of_lt (d := []) (show i < (gaps TT g).length by omega)
        have h4 : (gaps TT g).getD i [] = gapRow TT (owners g) i := gD_mapR hi
        rw [h4] at h3
        exact Option.some.inj (h2.symm.trans h3)
      rw [e]
      exact hrows i r h1
end
end RP
namespace RP
open PySem PySem.Spec PyProof.Rows L2
def lastV : Option Nat → V
  | none => .non
  | some x => .int (x : Nat)
/-- far at f, ahead at h, both made since H0 -/
structure BFAt (H0 H : Hp) (f h : Addr) (s : BF) : Prop where
  same : Same H0 H
  far : H f = some (.lst (iv s.far))
  ahead : H h = some (.lst (nv s.ahead))
  nf : H0 f = none
  nh : H0 h = none
  ne : f ≠ h
theorem BFAt.relaxed {H0 H : Hp} {f h : Addr} {s : BF} (B : BFAt H0 H f h s) (room : Nat) (d : Int) (first : Nat) :
    BFAt H0 (upd (upd H f (.lst ((iv s.far).set room (V.int d)))) h (.lst ((nv s.ahead).set room (V.int (first : Nat))))) f h ⟨s.far.set room d, s.ahead.set room first, some room⟩ where
  same := samePut (samePut B.same B.nf) B.nh
  far := by rw [upd_ne B.ne, upd_same, set_iv]
  ahead := by rw [upd_same, set_nv]
  nf := B.nf
  nh := B.nh
  ne := B.ne
section
variable {P : Program} {w : World} {K : PySem.W.Frag} {mg : Str → Option Value} {base : Heap} {D : Adr}
/-! ### barring -/
def spBarring : Sp := fun vs H Q _ => ∃ (a b : Addr) (T : List (List Int)) (g : List Nat), vs = [.ref a, .ref b] ∧ Tab H a T ∧ IsTab T ∧ H b = some (.lst (nv g)) ∧ Giving T.length g ∧
  ∀ H', Same H H' → (barring T g = none → Q .non H') ∧ ∀ around p, barring T g = some around → H p = none → H' p = some (.lst (nv around)) → Q (.ref p) H'
abbrev nmBarring : List Str := ["table", "giving", "size", "by", "far", "ahead", "last", "turn", "first", "room", "found"]
theorem scBarring : FnScope nmBarring ["table", "giving"] (defScope sBarring) := ⟨rfl, rfl, rfl, by decide +kernel, rfl, by decide +kernel, by decide +kernel⟩
theorem ok_barring (T : Txt K mg D) : Prom P w K mg base 3 D.barring ["table", "giving"] spBarring := by
  obtain ⟨fd, F⟩ := T.barring.fn
  have G1 := ok_gaps (P := P) (w := w) (base := base) T
  refine ⟨⟨fd, ?_, F.binds fun _ _ _ _ _ _ us hl => match us, hl with | [_, _], _ => rfl⟩, F.kp⟩
  refine F.ok scBarring (fun vs H Q E h => ?_) (fun cdv A outer s H vs Q E hr h => ?_)
  · obtain ⟨a, b, TT, g, rfl, _⟩ := h
    rfl
  · obtain ⟨a, b, TT, g, rfl, ha, ht, hb, hg, k⟩ := h
    have nd := scBarring.nd
    refine ⟨_, pss_cons (ps_set (i := 2) nd rfl (Or.inl rfl) (pe_callB (lenK K) (by rfl) T.zLen PySem.boot_len (pa_cons (pv 0) pa_nil)))
      (pss_cons (ps_set (i := 3) nd rfl (Or.inl rfl) (pe_cl G1 hr T.gaps.gl (pa_cons (pv 0) (pa_cons (pv 1) pa_nil))))
      (pss_cons (ps_set (i := 4) nd rfl (Or.inl rfl) (pe_op op_rep (pe_lst (pa_cons pe_int pa_nil)) (pv 2)))
      (pss_cons (ps_set (i := 5) nd rfl (Or.inl rfl) (pe_op op_rep (pe_lst (pa_cons pe_int pa_nil)) (pv 2)))
      (pss_cons (ps_set (i := 6) nd rfl (Or.inl rfl) pe_non)
      (pss_cons (ps_for PassesOwn.never rfl (pi_range1 (by rfl) T.zRange (pa_cons (pe_op op_add (pv 2) pe_int) pa_nil)) (pg_name (i := 7) nd rfl (Or.inl rfl))
        (pss_cons (ps_set (i := 6) nd rfl (Or.inl rfl) pe_non)
        (pss_one (ps_for PassesOwn.never rfl (pi_range1 (by rfl) T.zRange (pa_cons (pv 2) pa_nil)) (pg_name (i := 8) nd rfl (Or.inl rfl))
          (pss_one (ps_for PassesOwn.never rfl (pi_range1 (by rfl) T.zRange (pa_cons (pv 2) pa_nil)) (pg_name (i := 9) nd rfl (Or.inl rfl))
            (pss_one (ps_if (pt_cmpR op_lt (pe_op op_add (pe_ix (ixK K) (pv 4) (pv 8) (fun _ _ => rfl)) (pe_ix (ixK K) (pe_ix (ixK K) (pv 3) (pv 8) (fun _ _ => rfl)) (pv 9) (fun _ _ => rfl))) (pe_ix (ixK K) (pv 4) (pv 9) (fun _ _ => rfl)) (nomark _))
              (pss_cons (ps_asg (pe_op op_add (pe_ix (ixK K) (pv 4) (pv 8) (fun _ _ => rfl)) (pe_ix (ixK K) (pe_ix (ixK K) (pv 3) (pv 8) (fun _ _ => rfl)) (pv 9) (fun _ _ => rfl))) (pg_sub (pv 4) (pv 9) set_list))
              (pss_cons (ps_asg (pv 8) (pg_sub (pv 5) (pv 9) set_list))
              (pss_one (ps_set (i := 6) nd rfl (Or.inl rfl) (pv 9))))) pss_nil))))))))
      (pss_cons (ps_if (pt_cmp (pc_isN (pv 6))) (pss_one (ps_ret pe_non)) pss_nil)
      (pss_cons (ps_for PassesOwn.never rfl (pi_range1 (by rfl) T.zRange (pa_cons (pv 2) pa_nil)) (pg_name (i := 7) nd rfl (Or.inl rfl))
        (pss_one (ps_set (i := 6) nd rfl (Or.inl rfl) (pe_ix (ixK K) (pv 5) (pv 6) (fun _ _ => rfl)))))
      (pss_cons (ps_set (i := 10) nd rfl (Or.inl rfl) (pe_lst (pa_cons (pv 6) pa_nil)))
      (pss_cons (ps_while PassesOwn.never (pt_cmpR op_ne (pe_ix (ixK K) (pv 5) (pe_ix (ixK K) (pv 10) (pe_un un_neg pe_int) (fun _ _ => rfl)) (fun _ _ => rfl)) (pv 6) (nomark _))
        (pss_one (ps_expr (pe_bm PySem.F.plainAttrs_list PySem.F.slot_list_append PySem.F.type_list_append mt_append (pv 10) (pa_cons (pe_ix (ixK K) (pv 5) (pe_ix (ixK K) (pv 10) (pe_un un_neg pe_int) (fun _ _ => rfl)) (fun _ _ => rfl)) pa_nil)))))
      (pss_one (ps_ret (pv 10)))))))))))), ?_⟩
    have hm := ht.most
    have hp0 := ht.pos
    have big : (16 : Nat) ≤ sizeLine := by decide
    obtain ⟨ts, hA, htl, hrow⟩ := id ha
    -- size, by
    refine ⟨_, rfl, _, _, rfl, .inl (SqL.of hA), ?_⟩
    rw [List.length_map, htl]
    refine ⟨_, rfl, _, rfl, a, b, TT, g, rfl, ha, ht, hb, hg, fun H1 q rs s1 N => ?_⟩
    -- far, ahead
    refine ⟨by show 1 ≤ sizeLine; omega, fun l1 hl1 => ?_⟩
    refine ⟨_, rfl, l1, _, [V.int 0], rfl, rfl, upd_same, by omega, by omega, by show 1 * _ ≤ sizeLine; omega, fun f hf => ?_⟩
    refine ⟨by show 1 ≤ sizeLine; omega, fun l2 hl2 => ?_⟩
    refine ⟨_, rfl, l2, _, [V.int 0], rfl, rfl, upd_same, by omega, by omega, by show 1 * _ ≤ sizeLine; omega, fun h hh => ?_⟩
    rw [rep_flat, Int.toNat_natCast, rep_iv] at hl2 hh ⊢
    have hf1 : H1 f = none := (same_new hl1).free hf
    have sA := sameNew (o := .lst (iv (List.replicate TT.length 0))) (same_new (o := .lst [V.int 0]) hl1) hf
    have sB := sameNew (o := .lst [V.int 0]) sA hl2
    have hh1 : H1 h = none := sB.free hh
    have nfh : f ≠ h := by
      have e1 : upd (upd H1 l1 (.lst [V.int 0])) f (.lst (iv (List.replicate TT.length 0))) f = some (.lst (iv (List.replicate TT.length 0))) := upd_same
      exact ne_of_none (same_new hl2 _ _ e1) hh
    have B0 : BFAt H1 (upd (upd (upd (upd H1 l1 (.lst [V.int 0])) f (.lst (iv (List.replicate TT.length 0)))) l2 (.lst [V.int 0])) h (.lst (iv (List.replicate TT.length 0)))) f h ⟨List.replicate TT.length 0, List.replicate TT.length 0, none⟩ := by
      refine ⟨sameNew sB hh, ?_, upd_same.trans (by rw [← rep_iv, rep_nv]), hf1, hh1, nfh⟩
      have e1 : upd (upd H1 l1 (.lst [V.int 0])) f (.lst (iv (List.replicate TT.length 0))) f = some (.lst (iv (List.replicate TT.length 0))) := upd_same
      exact same_new hh _ _ (same_new hl2 _ _ e1)
    generalize upd (upd (upd (upd H1 l1 (.lst [V.int 0])) f (.lst (iv (List.replicate TT.length 0)))) l2 (.lst [V.int 0])) h (.lst (iv (List.replicate TT.length 0))) = H2 at B0
    clear hl1 hf hl2 hh sA sB
    have sq := gaps_sq TT g
    -- the rounds
    refine ⟨_, rfl, _, _, rfl, rfl, _, rfl, by omega, by omega, for_range (lo := 0) (n := TT.length + 1) (fun i σ H' => ∃ (v7 v8 v9 : Option V), σ = [some (.ref a), some (.ref b), some (.int (TT.length : Nat)), some (.ref q), some (.ref f), some (.ref h), some (lastV (run (fun _ s => round (gaps TT g) TT.length s) i ⟨List.replicate TT.length 0, List.replicate TT.length 0, none⟩).last), v7, v8, v9, none] ∧
        BFAt H1 H' f h (run (fun _ s => round (gaps TT g) TT.length s) i ⟨List.replicate TT.length 0, List.replicate TT.length 0, none⟩)) ⟨none, none, none, rfl, B0⟩ ?_ ?_⟩
    · rintro i σ H3 hi ⟨v7, v8, v9, rfl, B⟩
      have ok := bfrun_ok (W := gaps TT g) (n := TT.length) (k := i)
      have es : run (fun _ s => round (gaps TT g) TT.length s) (i + 1) ⟨List.replicate TT.length 0, List.replicate TT.length 0, none⟩ = round (gaps TT g) TT.length (run (fun _ s => round (gaps TT g) TT.length s) i ⟨List.replicate TT.length 0, List.replicate TT.length 0, none⟩) := rfl
      simp only [es]
      generalize run (fun _ s => round (gaps TT g) TT.length s) i ⟨List.replicate TT.length 0, List.replicate TT.length 0, none⟩ = s0 at B ok
      -- first
      refine ⟨_, rfl, _, rfl, by omega, by omega, for_range (lo := 0) (n := TT.length) (fun j σ H' => ∃ (v7 v8 v9 : Option V), σ = [some (.ref a), some (.ref b), some (.int (TT.length : Nat)), some (.ref q), some (.ref f), some (.ref h), some (lastV (run (relaxRow (gaps TT g) TT.length) j (clr s0)).last), v7, v8, v9, none] ∧
        BFAt H1 H' f h (run (relaxRow (gaps TT g) TT.length) j (clr s0))) ⟨_, v8, v9, rfl, ⟨B.same, B.far, B.ahead, B.nf, B.nh, B.ne⟩⟩ ?_ ?_⟩
      · rintro j σ H4 hj ⟨w7, w8, w9, rfl, B4⟩
        have ok4 := round_ok (W := gaps TT g) (m := j) ok (by omega)
        have es : run (relaxRow (gaps TT g) TT.length) (j + 1) (clr s0) = relaxRow (gaps TT g) TT.length j (run (relaxRow (gaps TT g) TT.length) j (clr s0)) := rfl
        simp only [es]
        generalize run (relaxRow (gaps TT g) TT.length) j (clr s0) = s4 at B4 ok4
        rw [Int.zero_add]
        refine ⟨_, rfl, _, rfl, by omega, by omega, for_range (lo := 0) (n := TT.length) (fun m σ H' => ∃ (v7 v9 : Option V), σ = [some (.ref a), some (.ref b), some (.int (TT.length : Nat)), some (.ref q), some (.ref f), some (.ref h), some (lastV (run (relax (gaps TT g) j) m s4).last), v7, some (.int (j : Nat)), v9, none] ∧
          BFAt H1 H' f h (run (relax (gaps TT g) j) m s4)) ⟨w7, w9, rfl, B4⟩ ?_ ?_⟩
        · rintro m σ H5 hm5 ⟨u7, u9, rfl, B5⟩
          have ok5 := relaxRow_ok (W := gaps TT g) (m := m) ok4 hj (by omega)
          have es : run (relax (gaps TT g) j) (m + 1) s4 = relax (gaps TT g) j m (run (relax (gaps TT g) j) m s4) := rfl
          simp only [es]
          generalize run (relax (gaps TT g) j) m s4 = s5 at B5 ok5
          rw [Int.zero_add]
          have hjr : j < rs.length := by rw [N.len, sq.1]; exact hj
          have hrw := B5.same _ _ (N.rows j rs[j] (gR (gaps TT g) j) (List.getElem?_eq_getElem hjr) (get_of_lt (by rw [sq.1]; exact hj)))
          have rl : (gR (gaps TT g) j).length = TT.length := sq.row hj
          have fl := ok5.far
          have al := ok5.ahead
          refine ⟨_, rfl, _, rfl, f, iv s5.far, _, _, rfl, rfl, SqL.of B5.far, at_iv (i := j) (by omega), _, rfl, _, rfl, q, rs.map V.ref, _, _, rfl, rfl, SqL.of (B5.same _ _ N.top), at_ref hjr, _, rfl, rs[j], iv (gR (gaps TT g) j), _, _, rfl, rfl, SqL.of hrw, at_iv (i := m) (by omega), _, _, rfl, rfl,
            _, rfl, _, rfl, f, iv s5.far, _, _, rfl, rfl, SqL.of B5.far, at_iv (i := m) (by omega), _, _, rfl, rfl, _, rfl, ?_⟩
          refine ite2 (fun c => ?_) (fun c => ?_)
          · have c := of_decide_eq_true c
            refine ⟨_, rfl, _, rfl, f, iv s5.far, _, _, rfl, rfl, SqL.of B5.far, at_iv (i := j) (by omega), _, rfl, _, rfl, q, rs.map V.ref, _, _, rfl, rfl, SqL.of (B5.same _ _ N.top), at_ref hjr, _, rfl, rs[j], iv (gR (gaps TT g) j), _, _, rfl, rfl, SqL.of hrw, at_iv (i := m) (by omega), _, _, rfl, rfl,
              _, rfl, _, rfl, f, iv s5.far, _, m, rfl, rfl, B5.far, ixN_lt (by rw [len_iv]; omega), ?_⟩
            have hah : upd H5 f (.lst ((iv s5.far).set m (V.int (gI s5.far j + gI (gR (gaps TT g) j) m)))) h = some (.lst (nv s5.ahead)) := by
              rw [upd_ne B5.ne.symm]
              exact B5.ahead
            refine ⟨_, rfl, _, rfl, _, rfl, h, nv s5.ahead, _, m, rfl, rfl, hah, ixN_lt (by rw [len_nv]; omega), ?_⟩
            have e : relax (gaps TT g) j m s5 = ⟨s5.far.set m (gI s5.far j + at2 (gaps TT g) j m), s5.ahead.set m j, some m⟩ := if_pos c
            rw [e]
            exact ⟨_, rfl, u7, _, rfl, B5.relaxed m _ j⟩
          · have c := fun z => c (decide_eq_true z)
            have e : relax (gaps TT g) j m s5 = s5 := if_neg c
            rw [e]
            exact ⟨u7, _, rfl, B5⟩
        · rintro σ H5 ⟨u7, u9, rfl, B5⟩
          exact ⟨u7, _, u9, rfl, B5⟩
      · rintro σ H4 ⟨w7, w8, w9, rfl, B4⟩
        exact ⟨w7, w8, w9, rfl, B4⟩
    · rintro σ H3 ⟨v7, v8, v9, rfl, B⟩
      have ok := bf_ok (W := gaps TT g) (n := TT.length)
      have eb : run (fun _ s => round (gaps TT g) TT.length s) (TT.length + 1) ⟨List.replicate TT.length 0, List.replicate TT.length 0, none⟩ = bf (gaps TT g) TT.length := rfl
      rw [eb] at B ⊢
      have bdef : barring TT g = match (bf (gaps TT g) TT.length).last with
        | none => none
        | some x => some (ringOf (bf (gaps TT g) TT.length).ahead TT.length x) := rfl
      generalize bf (gaps TT g) TT.length = sb at B ok bdef ⊢
      have sH := s1.trans B.same
      cases el : sb.last with
      | none =>
        rw [el] at bdef
        exact ⟨_, rfl, _, rfl, iteDT rfl ((k H3 sH).1 bdef)⟩
      | some x =>
        rw [el] at bdef
        have hx := ok.last x el
        refine ⟨_, rfl, _, rfl, iteDF (fun z => by cases z) ?_⟩
        -- round to the ring
        refine ⟨_, rfl, _, rfl, by omega, by omega, for_range (lo := 0) (n := TT.length) (fun i σ H' => ∃ (v7 : Option V), σ = [some (.ref a), some (.ref b), some (.int (TT.length : Nat)), some (.ref q), some (.ref f), some (.ref h), some (.int ((run (fun _ l => gN sb.ahead l) i x : Nat) : Int)), v7, v8, v9, none] ∧ H' = H3) ⟨v7, rfl, rfl⟩ ?_ ?_⟩
        · rintro i σ H4 hi ⟨v7', rfl, rfl⟩
          have hl : run (fun _ l => gN sb.ahead l) i x < TT.length := by rw [ringLast_eq]; exact stepN_lt ok.lt hx i
          refine ⟨_, rfl, _, rfl, h, nv sb.ahead, _, _, rfl, rfl, SqL.of B.ahead, at_nv (by rw [ok.ahead]; exact hl), ?_⟩
          exact ⟨_, rfl, rfl⟩
        · rintro σ H4 ⟨v7', rfl, rfl⟩
          have hl : ringLast sb.ahead TT.length x < TT.length := ringLast_lt ok.lt hx
          have hbk := ring_back ok.lt hx
          have er : run (fun _ l => gN sb.ahead l) TT.length x = ringLast sb.ahead TT.length x := rfl
          have bdef : barring TT g = some (ringGo sb.ahead (ringLast sb.ahead TT.length x) TT.length (ringLast sb.ahead TT.length x) [ringLast sb.ahead TT.length x]) := bdef
          rw [er]
          generalize ringLast sb.ahead TT.length x = la at hl hbk bdef ⊢
          refine ⟨_, rfl, by show 1 ≤ sizeLine; omega, fun p hp => ?_⟩
          have hp1 : H1 p = none := B.same.free hp
          have hpH : H p = none := s1.free hp1
          -- the ring
          refine ⟨fun m σ H' => ∃ (pre : List Nat) (cur : Nat), σ = [some (.ref a), some (.ref b), some (.int (TT.length : Nat)), some (.ref q), some (.ref f), some (.ref h), some (.int (la : Nat)), v7', v8, v9, some (.ref p)] ∧ Same H4 H' ∧ H' p = some (.lst (nv (pre ++ [cur]))) ∧ cur < TT.length ∧
              barring TT g = some (ringGo sb.ahead la m cur (pre ++ [cur])) ∧ (∃ d, 0 < d ∧ d ≤ m ∧ stepN sb.ahead d cur = la) ∧ pre.length + m ≤ TT.length,
            ⟨TT.length, [], la, rfl, same_new hp, upd_same, hl, bdef, hbk, by simp⟩, ?_⟩
          rintro m σ H5 ⟨pre, cur, rfl, s5, hp5, hcur, hbar, ⟨d, d0, dm, dl⟩, hlen⟩
          have hah := s5 _ _ B.ahead
          have eap : nv (pre ++ [cur]) = nv pre ++ [V.int (cur : Nat)] := by
            unfold nv
            rw [List.map_append]
            rfl
          have hat : atI (nv (pre ++ [cur])) (-1) = some (V.int (cur : Nat)) := by rw [eap]; exact atI_last _ _
          have hca : cur < sb.ahead.length := by rw [ok.ahead]; exact hcur
          refine ⟨_, rfl, _, rfl, _, rfl, p, nv (pre ++ [cur]), _, _, rfl, rfl, SqL.of hp5, hat, h, nv sb.ahead, _, _, rfl, rfl, SqL.of hah, at_nv hca, _, rfl, rfl, _, rfl, ?_⟩
          obtain ⟨m', rfl⟩ : ∃ m', m = m' + 1 := ⟨m - 1, by omega⟩
          by_cases c : gN sb.ahead cur = la
          · refine iteNS (by rw [c]) ?_
            have e : ringGo sb.ahead la (m' + 1) cur (pre ++ [cur]) = pre ++ [cur] := by
              unfold ringGo
              rw [if_pos c]
            rw [e] at hbar
            exact ⟨_, rfl, (k _ (sH.trans s5)).2 _ p hbar hpH hp5⟩
          · refine iteNF (fun z => c (by injection z with z; exact Int.ofNat.inj z)) ?_
            refine ⟨fun σ' H' => ∃ (pre : List Nat) (cur : Nat), σ' = [some (.ref a), some (.ref b), some (.int (TT.length : Nat)), some (.ref q), some (.ref f), some (.ref h), some (.int (la : Nat)), v7', v8, v9, some (.ref p)] ∧ Same H4 H' ∧ H' p = some (.lst (nv (pre ++ [cur]))) ∧ cur < TT.length ∧
              barring TT g = some (ringGo sb.ahead la m' cur (pre ++ [cur])) ∧ (∃ d, 0 < d ∧ d ≤ m' ∧ stepN sb.ahead d cur = la) ∧ pre.length + m' ≤ TT.length, fun σ' H' hN => ⟨m', Nat.lt_succ_self _, hN⟩, ?_⟩
            refine ⟨_, rfl, .inl ⟨rfl, _, SqL.of hp5⟩, _, rfl, _, rfl, _, rfl, p, nv (pre ++ [cur]), _, _, rfl, rfl, SqL.of hp5, hat, h, nv sb.ahead, _, _, rfl, rfl, SqL.of hah, at_nv hca, p, _, _, rfl, rfl, hp5, ?_, ?_⟩
            · rw [len_nv, List.length_append, List.length_singleton]
              omega
            · have e : ringGo sb.ahead la (m' + 1) cur (pre ++ [cur]) = ringGo sb.ahead la m' (gN sb.ahead cur) (pre ++ [cur] ++ [gN sb.ahead cur]) := by
                show (if gN sb.ahead cur = la then _ else _) = _
                rw [if_neg c]
              rw [e] at hbar
              refine ⟨pre ++ [cur], gN sb.ahead cur, rfl, samePut s5 hp, ?_, ok.lt cur hcur, hbar, ?_, ?_⟩
              · rw [upd_same]
                unfold nv
                rw [List.map_append, List.map_append, List.map_append]
                rfl
              · have d1 : d ≠ 1 := fun e1 => by
                  rw [e1] at dl
                  exact c dl
                refine ⟨d - 1, by omega, by omega, ?_⟩
                have := stepN_add (ahead := sb.ahead) cur 1 (d - 1)
                rw [show 1 + (d - 1) = d by omega, dl] at this
                exact this.symm
              · rw [List.length_append, List.length_singleton]
                omega
end
end RP
namespace RP
open PySem PySem.Spec PyProof.Rows L2
theorem NewT.set {H H' : Hp} {p : Addr} {rs : List Addr} {F : List (List Int)} (N : NewT H H' p rs F) {i : Nat} (hi : i < rs.length) (j : Nat) (v : Int) : NewT H (upd H' rs[i] (.lst ((iv (gR F i)).set j (V.int v)))) p rs (set2 F i j v) where
  top := by
    have hne : p ≠ rs[i] := fun e => N.np (by rw [e]; exact List.getElem_mem hi)
    rw [upd_ne hne]
    exact N.top
  len := by
    unfold set2
    rw [List.length_set]
    exact N.len
  rows := fun m r row h1 h2 => by
    unfold set2 at h2
    by_cases e : m = i
    · subst e
      rw [List.getElem?_eq_getElem hi] at h1
      obtain rfl := Option.some.inj h1
      rw [List.getElem?_set_self (by rw [← N.len]; exact hi)] at h2
      rw [upd_same, set_iv, Option.some.inj h2]
    · rw [List.getElem?_set_ne (fun q => e q.symm)] at h2
      have nr : r ≠ rs[i] := fun q => e (nd_ix N.nd h1 (by rw [q]; exact List.getElem?_eq_getElem hi))
      rw [upd_ne nr]
      exact N.rows m r row h1 h2
  nd := N.nd
  np := N.np
  fresh := N.fresh
  freshP := N.freshP
section
variable {P : Program} {w : World} {K : PySem.W.Frag} {mg : Str → Option Value} {base : Heap} {D : Adr}
/-! ### bounds -/
def spBounds : Sp := fun vs H Q _ => ∃ (a b : Addr) (T : List (List Int)) (g : List Nat), vs = [.ref a, .ref b] ∧ Tab H a T ∧ IsTab T ∧ H b = some (.lst (nv g)) ∧ Giving T.length g ∧
  ∀ H' p rs, Same H H' → NewT H H' p rs (bounds T g) → Q (.ref p) H'
abbrev nmBounds : List Str := ["table", "giving", "far", "size", "middle", "first", "room"]
theorem scBounds : FnScope nmBounds ["table", "giving"] (defScope sBounds) := ⟨rfl, rfl, rfl, by decide +kernel, rfl, by decide +kernel, by decide +kernel⟩
abbrev fwRoom (n middle first : Nat) (m : Nat) (F : List (List Int)) : List (List Int) := run (fun room F => fwOne middle first room F) m F
abbrev fwFirst (n middle : Nat) (m : Nat) (F : List (List Int)) : List (List Int) := run (fun first F => fwRoom n middle first n F) m F
abbrev fwMid (n : Nat) (m : Nat) (F : List (List Int)) : List (List Int) := run (fun middle F => fwFirst n middle n F) m F
theorem fwRoom_sq {n middle first m : Nat} {F : List (List Int)} (h : IsSq n F) (hf : first < n) : IsSq n (fwRoom n middle first m F) := run_inv (fun _ F => IsSq n F) h m fun _ _ _ h => set2_sq h hf
theorem fwFirst_sq {n middle m : Nat} {F : List (List Int)} (h : IsSq n F) (hm : m ≤ n) : IsSq n (fwFirst n middle m F) := run_inv (fun _ F => IsSq n F) h m fun _ _ hi h => fwRoom_sq h (by omega)
theorem fwMid_sq {n m : Nat} {F : List (List Int)} (h : IsSq n F) : IsSq n (fwMid n m F) := run_inv (fun _ F => IsSq n F) h m fun _ _ hi h => fwFirst_sq h (Nat.le_refl _)
theorem ok_bounds (T : Txt K mg D) : Prom P w K mg base 3 D.bounds ["table", "giving"] spBounds := by
  obtain ⟨fd, F⟩ := T.bounds.fn
  have G1 := ok_gaps (P := P) (w := w) (base := base) T
  refine ⟨⟨fd, ?_, F.binds fun _ _ _ _ _ _ us hl => match us, hl with | [_, _], _ => rfl⟩, F.kp⟩
  refine F.ok scBounds (fun vs H Q E h => ?_) (fun cdv A outer s H vs Q E hr h => ?_)
  · obtain ⟨a, b, TT, g, rfl, _⟩ := h
    rfl
  · obtain ⟨a, b, TT, g, rfl, ha, ht, hb, hg, k⟩ := h
    have nd := scBounds.nd
    refine ⟨_, pss_cons (ps_set (i := 2) nd rfl (Or.inl rfl) (pe_cl G1 hr T.gaps.gl (pa_cons (pv 0) (pa_cons (pv 1) pa_nil))))
      (pss_cons (ps_set (i := 3) nd rfl (Or.inl rfl) (pe_callB (lenK K) (by rfl) T.zLen PySem.boot_len (pa_cons (pv 0) pa_nil)))
      (pss_cons (ps_for PassesOwn.never rfl (pi_range1 (by rfl) T.zRange (pa_cons (pv 3) pa_nil)) (pg_name (i := 4) nd rfl (Or.inl rfl))
        (pss_one (ps_for PassesOwn.never rfl (pi_range1 (by rfl) T.zRange (pa_cons (pv 3) pa_nil)) (pg_name (i := 5) nd rfl (Or.inl rfl))
          (pss_one (ps_for PassesOwn.never rfl (pi_range1 (by rfl) T.zRange (pa_cons (pv 3) pa_nil)) (pg_name (i := 6) nd rfl (Or.inl rfl))
            (pss_one (ps_asg (pe_callB (call_min2 rfl) (by rfl) T.zMin (by decide +kernel) (pa_cons (pe_ix (ixK K) (pe_ix (ixK K) (pv 2) (pv 5) (fun _ _ => rfl)) (pv 6) (fun _ _ => rfl))
                (pa_cons (pe_op op_add (pe_ix (ixK K) (pe_ix (ixK K) (pv 2) (pv 5) (fun _ _ => rfl)) (pv 4) (fun _ _ => rfl)) (pe_ix (ixK K) (pe_ix (ixK K) (pv 2) (pv 4) (fun _ _ => rfl)) (pv 6) (fun _ _ => rfl))) pa_nil)))
              (pg_sub (pe_ix (ixK K) (pv 2) (pv 5) (fun _ _ => rfl)) (pv 6) set_list))))))))
      (pss_one (ps_ret (pv 2))))), ?_⟩
    have hm := ht.most
    have hp0 := ht.pos
    refine ⟨_, rfl, _, rfl, a, b, TT, g, rfl, ha, ht, hb, hg, fun H1 p rs s1 N => ?_⟩
    obtain ⟨ts, hA, htl, hrow⟩ := ha.same s1
    refine ⟨_, rfl, _, _, rfl, .inl (SqL.of hA), ?_⟩
    rw [List.length_map, htl]
    have sq := gaps_sq TT g
    have hrl : rs.length = TT.length := by rw [N.len, sq.1]
    refine ⟨_, rfl, _, rfl, by omega, by omega, for_range (lo := 0) (n := TT.length) (fun i σ H' => ∃ (v4 v5 v6 : Option V), σ = [some (.ref a), some (.ref b), some (.ref p), some (.int (TT.length : Nat)), v4, v5, v6] ∧ Same H H' ∧ NewT H H' p rs (fwMid TT.length i (gaps TT g)))
      ⟨none, none, none, rfl, s1, N⟩ ?_ ?_⟩
    · rintro i σ H2 hi ⟨v4, v5, v6, rfl, s2, N2⟩
      have q2 := fwMid_sq (m := i) sq
      have es : fwMid TT.length (i + 1) (gaps TT g) = fwFirst TT.length i TT.length (fwMid TT.length i (gaps TT g)) := rfl
      simp only [es]
      generalize fwMid TT.length i (gaps TT g) = F2 at N2 q2
      rw [Int.zero_add]
      refine ⟨_, rfl, _, rfl, by omega, by omega, for_range (lo := 0) (n := TT.length) (fun j σ H' => ∃ (v5 v6 : Option V), σ = [some (.ref a), some (.ref b), some (.ref p), some (.int (TT.length : Nat)), some (.int (i : Nat)), v5, v6] ∧ Same H H' ∧ NewT H H' p rs (fwFirst TT.length i j F2))
        ⟨v5, v6, rfl, s2, N2⟩ ?_ ?_⟩
      · rintro j σ H3 hj ⟨w5, w6, rfl, s3, N3⟩
        have q3 := fwFirst_sq (middle := i) (m := j) q2 (by omega)
        have es : fwFirst TT.length i (j + 1) F2 = fwRoom TT.length i j TT.length (fwFirst TT.length i j F2) := rfl
        simp only [es]
        generalize fwFirst TT.length i j F2 = F3 at N3 q3
        rw [Int.zero_add]
        refine ⟨_, rfl, _, rfl, by omega, by omega, for_range (lo := 0) (n := TT.length) (fun m σ H' => ∃ (v6 : Option V), σ = [some (.ref a), some (.ref b), some (.ref p), some (.int (TT.length : Nat)), some (.int (i : Nat)), some (.int (j : Nat)), v6] ∧ Same H H' ∧ NewT H H' p rs (fwRoom TT.length i j m F3))
          ⟨w6, rfl, s3, N3⟩ ?_ ?_⟩
        · rintro m σ H4 hm4 ⟨u6, rfl, s4, N4⟩
          have q4 := fwRoom_sq (middle := i) (m := m) q3 hj
          have es : fwRoom TT.length i j (m + 1) F3 = fwOne i j m (fwRoom TT.length i j m F3) := rfl
          simp only [es]
          generalize fwRoom TT.length i j m F3 = F4 at N4 q4
          rw [Int.zero_add]
          have hjr : j < rs.length := by omega
          have hir : i < rs.length := by omega
          have hrj := N4.rows j rs[j] (gR F4 j) (List.getElem?_eq_getElem hjr) (get_of_lt (by rw [q4.1]; exact hj))
          have hri := N4.rows i rs[i] (gR F4 i) (List.getElem?_eq_getElem hir) (get_of_lt (by rw [q4.1]; exact hi))
          have lj := q4.row hj
          have li := q4.row hi
          refine ⟨_, rfl, _, rfl, p, rs.map V.ref, _, _, rfl, rfl, SqL.of N4.top, at_ref hjr, _, rfl, rs[j], iv (gR F4 j), _, _, rfl, rfl, SqL.of hrj, at_iv (i := m) (by omega),
            _, rfl, _, rfl, p, rs.map V.ref, _, _, rfl, rfl, SqL.of N4.top, at_ref hjr, _, rfl, rs[j], iv (gR F4 j), _, _, rfl, rfl, SqL.of hrj, at_iv (i := i) (by omega),
            _, rfl, _, rfl, p, rs.map V.ref, _, _, rfl, rfl, SqL.of N4.top, at_ref hir, _, rfl, rs[i], iv (gR F4 i), _, _, rfl, rfl, SqL.of hri, at_iv (i := m) (by omega), _, _, rfl, rfl, _, _, rfl, ?_⟩
          refine ⟨_, rfl, _, rfl, p, rs.map V.ref, _, _, rfl, rfl, SqL.of N4.top, at_ref hjr, _, rfl, rs[j], iv (gR F4 j), _, m, rfl, rfl, hrj, ixN_lt (by rw [len_iv]; omega), ?_⟩
          refine ⟨_, rfl, samePut s4 (N4.fresh _ (List.getElem_mem hjr)), N4.set hjr m _⟩
        · rintro σ H4 ⟨u6, rfl, s4, N4⟩
          exact ⟨_, u6, rfl, s4, N4⟩
      · rintro σ H3 ⟨w5, w6, rfl, s3, N3⟩
        exact ⟨_, w5, w6, rfl, s3, N3⟩
    · rintro σ H2 ⟨v4, v5, v6, rfl, s2, N2⟩
      exact ⟨_, rfl, k _ p rs s2 N2⟩
end
end RP
namespace RP
open PySem PySem.Spec PyProof.Rows L2
/-! ### answers -/
def fPr (l : Addr) : List (Str × V) := [("prices", V.ref l)]
def fRi (l : Addr) : List (Str × V) := [("people", V.ref l)]
def fSe (r l : Addr) : List (Str × V) := [("rooms", V.ref r), ("prices", V.ref l)]
theorem rp_ : ¬ (("rooms" : Str) = "prices") := by decide +kernel
theorem pr_ : ¬ (("prices" : Str) = "rooms") := by decide +kernel
theorem fPr_at (l : Addr) : (fPr l).lookup ("prices" : Str) = some (.ref l) := by
  unfold fPr
  rw [List.lookup_cons]
  simp
theorem fRi_at (l : Addr) : (fRi l).lookup ("people" : Str) = some (.ref l) := by
  unfold fRi
  rw [List.lookup_cons]
  simp
theorem fSe_rooms (r l : Addr) : (fSe r l).lookup ("rooms" : Str) = some (.ref r) := by
  unfold fSe
  rw [List.lookup_cons]
  simp
theorem fSe_prices (r l : Addr) : (fSe r l).lookup ("prices" : Str) = some (.ref l) := by
  unfold fSe
  rw [List.lookup_cons, List.lookup_cons, show (("prices" : Str) == "rooms") = false from beq_eq_false_iff_ne.mpr pr_]
  simp
theorem fPr_no {m : Str} (l : Addr) (h : ¬ m = "prices") : (fPr l).lookup m = none := by
  unfold fPr
  rw [List.lookup_cons, show (m == ("prices" : Str)) = false from beq_eq_false_iff_ne.mpr h]
  rfl
theorem fRi_no {m : Str} (l : Addr) (h : ¬ m = "people") : (fRi l).lookup m = none := by
  unfold fRi
  rw [List.lookup_cons, show (m == ("people" : Str)) = false from beq_eq_false_iff_ne.mpr h]
  rfl
theorem fSe_no {m : Str} (r l : Addr) (h : ¬ m = "rooms") (h2 : ¬ m = "prices") : (fSe r l).lookup m = none := by
  unfold fSe
  rw [List.lookup_cons, List.lookup_cons, show (m == ("rooms" : Str)) = false from beq_eq_false_iff_ne.mpr h, show (m == ("prices" : Str)) = false from beq_eq_false_iff_ne.mpr h2]
  rfl
/-- a Priced of ps stands at p; a Ring of people; a Settled -/
def PrAt (C : Addr) (H : Hp) (p : Addr) (ps : List Int) : Prop := ∃ dx l, H p = some (.ins C dx (fPr l)) ∧ H l = some (.lst (iv ps))
def RiAt (C : Addr) (H : Hp) (p : Addr) (g : List Nat) : Prop := ∃ dx l, H p = some (.ins C dx (fRi l)) ∧ H l = some (.lst (nv g))
def SeAt (C : Addr) (H : Hp) (p : Addr) (g : List Nat) (ps : List Int) : Prop := ∃ dx r l, H p = some (.ins C dx (fSe r l)) ∧ H r = some (.lst (nv g)) ∧ H l = some (.lst (iv ps))
theorem PrAt.same {C : Addr} {H H' : Hp} {p : Addr} {ps : List Int} (h : PrAt C H p ps) (s : Same H H') : PrAt C H' p ps := by
  obtain ⟨dx, l, h1, h2⟩ := h
  exact ⟨dx, l, s _ _ h1, s _ _ h2⟩
theorem RiAt.same {C : Addr} {H H' : Hp} {p : Addr} {g : List Nat} (h : RiAt C H p g) (s : Same H H') : RiAt C H' p g := by
  obtain ⟨dx, l, h1, h2⟩ := h
  exact ⟨dx, l, s _ _ h1, s _ _ h2⟩
theorem SeAt.same {C : Addr} {H H' : Hp} {p : Addr} {g : List Nat} {ps : List Int} (h : SeAt C H p g ps) (s : Same H H') : SeAt C H' p g ps := by
  obtain ⟨dx, r, l, h1, h2, h3⟩ := h
  exact ⟨dx, r, l, s _ _ h1, s _ _ h2, s _ _ h3⟩
section
variable {P : Program} {w : World} {K : PySem.W.Frag} {mg : Str → Option Value} {base : Heap} {D : Adr}
/-- what all that was there ahead of the new instance at p is like behind its __init__ -/
def Kept (H H' : Hp) (p : Addr) : Prop := ∀ b o, H b = some o → b ≠ p → H' b = some o
theorem Kept.same {H H1 : Hp} {x dx C : Addr} (nx : H x = none) (nd : H dx = none) (k : Kept (upd (upd H dx (.own x)) x (.ins C dx [])) H1 x) : Same H H1 := Same.made nx nd k
/-! ### Priced.__init__ -/
def spPrInit (C : Addr) : Sp := fun vs H Q _ => ∃ (p a dx : Addr) (ps : List Int), vs = [.ref p, .ref a] ∧ H p = some (.ins C dx []) ∧ H a = some (.lst (iv ps)) ∧ ∀ H', Kept H H' p → PrAt C H' p ps → Q .non H'
theorem scPrInit : FnScope ["self", "prices"] ["self", "prices"] (defScope sPrInit) := ⟨rfl, rfl, rfl, by decide +kernel, rfl, by decide +kernel, by decide +kernel⟩
theorem ok_prInit (T : Txt K mg D) : Prom P w K mg base 1 D.prInit ["self", "prices"] (spPrInit D.cPr) := by
  obtain ⟨fd, F⟩ := T.cPr.fi
  refine ⟨⟨fd, ?_, F.binds fun _ _ _ _ _ _ us hl => match us, hl with | [_, _], _ => rfl⟩, F.kp⟩
  refine F.ok scPrInit (fun vs H Q E h => ?_) (fun cdv A outer s H vs Q E hr h => ?_)
  · obtain ⟨p, a, dx, ps, rfl, _⟩ := h
    rfl
  · obtain ⟨p, a, dx, ps, rfl, hp, ha, k⟩ := h
    refine ⟨_, pss_one (ps_fld (pv 0) (pe_callTy call_list_of (by rfl) T.zList (by decide +kernel) (pa_cons (pv 1) pa_nil)) rfl), ?_⟩
    refine ⟨_, rfl, a, iv ps, rfl, .inl (SqL.of ha), fun l hl => ?_⟩
    have hpl : p ≠ l := ne_of_none hp hl
    refine ⟨_, rfl, p, D.cPr, dx, [], rfl, by rw [upd_ne hpl]; exact hp, T.cPr.cl, T.prPrices, by show 0 < 1000; decide, ?_⟩
    refine k _ (fun b o e hb => ?_) ⟨dx, l, upd_same, ?_⟩
    · rw [upd_ne hb]
      exact same_new hl _ _ e
    · rw [upd_ne hpl.symm, upd_same]
/-! ### Ring.__init__ -/
def spRiInit (C : Addr) : Sp := fun vs H Q _ => ∃ (p a dx : Addr) (g : List Nat), vs = [.ref p, .ref a] ∧ H p = some (.ins C dx []) ∧ H a = some (.lst (nv g)) ∧ ∀ H', Kept H H' p → RiAt C H' p g → Q .non H'
theorem scRiInit : FnScope ["self", "people"] ["self", "people"] (defScope sRiInit) := ⟨rfl, rfl, rfl, by decide +kernel, rfl, by decide +kernel, by decide +kernel⟩
theorem ok_riInit (T : Txt K mg D) : Prom P w K mg base 1 D.riInit ["self", "people"] (spRiInit D.cRi) := by
  obtain ⟨fd, F⟩ := T.cRi.fi
  refine ⟨⟨fd, ?_, F.binds fun _ _ _ _ _ _ us hl => match us, hl with | [_, _], _ => rfl⟩, F.kp⟩
  refine F.ok scRiInit (fun vs H Q E h => ?_) (fun cdv A outer s H vs Q E hr h => ?_)
  · obtain ⟨p, a, dx, ps, rfl, _⟩ := h
    rfl
  · obtain ⟨p, a, dx, ps, rfl, hp, ha, k⟩ := h
    refine ⟨_, pss_one (ps_fld (pv 0) (pe_callTy call_list_of (by rfl) T.zList (by decide +kernel) (pa_cons (pv 1) pa_nil)) rfl), ?_⟩
    refine ⟨_, rfl, a, nv ps, rfl, .inl (SqL.of ha), fun l hl => ?_⟩
    have hpl : p ≠ l := ne_of_none hp hl
    refine ⟨_, rfl, p, D.cRi, dx, [], rfl, by rw [upd_ne hpl]; exact hp, T.cRi.cl, T.riPeople, by show 0 < 1000; decide, ?_⟩
    refine k _ (fun b o e hb => ?_) ⟨dx, l, upd_same, ?_⟩
    · rw [upd_ne hb]
      exact same_new hl _ _ e
    · rw [upd_ne hpl.symm, upd_same]
/-! ### Settled.__init__ -/
def spSeInit (C : Addr) : Sp := fun vs H Q _ => ∃ (p a b dx : Addr) (g : List Nat) (ps : List Int), vs = [.ref p, .ref a, .ref b] ∧ H p = some (.ins C dx []) ∧ H a = some (.lst (nv g)) ∧ H b = some (.lst (iv ps)) ∧ ∀ H', Kept H H' p → SeAt C H' p g ps → Q .non H'
theorem scSeInit : FnScope ["self", "rooms", "prices"] ["self", "rooms", "prices"] (defScope sSeInit) := ⟨rfl, rfl, rfl, by decide +kernel, rfl, by decide +kernel, by decide +kernel⟩
theorem ok_seInit (T : Txt K mg D) : Prom P w K mg base 1 D.seInit ["self", "rooms", "prices"] (spSeInit D.cSe) := by
  obtain ⟨fd, F⟩ := T.cSe.fi
  refine ⟨⟨fd, ?_, F.binds fun _ _ _ _ _ _ us hl => match us, hl with | [_, _, _], _ => rfl⟩, F.kp⟩
  refine F.ok scSeInit (fun vs H Q E h => ?_) (fun cdv A outer s H vs Q E hr h => ?_)
  · obtain ⟨p, a, b, dx, g, ps, rfl, _⟩ := h
    rfl
  · obtain ⟨p, a, b, dx, g, ps, rfl, hp, ha, hb, k⟩ := h
    refine ⟨_, pss_cons (ps_fld (pv 0) (pe_callTy call_list_of (by rfl) T.zList (by decide +kernel) (pa_cons (pv 1) pa_nil)) rfl) (pss_one (ps_fld (pv 0) (pe_callTy call_list_of (by rfl) T.zList (by decide +kernel) (pa_cons (pv 2) pa_nil)) rfl)), ?_⟩
    refine ⟨_, rfl, a, nv g, rfl, .inl (SqL.of ha), fun r hrr => ?_⟩
    have hpr : p ≠ r := ne_of_none hp hrr
    refine ⟨_, rfl, p, D.cSe, dx, [], rfl, by rw [upd_ne hpr]; exact hp, T.cSe.cl, T.seRooms, by show 0 < 1000; decide, ?_⟩
    have hbp : b ≠ p := ne_of hb hp (by intro z; cases z)
    have hb2 : upd (upd H r (.lst (nv g))) p (.ins D.cSe dx (putF "rooms" (V.ref r) [])) b = some (.lst (iv ps)) := by
      rw [upd_ne hbp]
      exact same_new hrr _ _ hb
    refine ⟨_, rfl, b, iv ps, rfl, .inl (SqL.of hb2), fun l hl => ?_⟩
    have hp2 : upd (upd H r (.lst (nv g))) p (.ins D.cSe dx (putF "rooms" (V.ref r) [])) p = some (.ins D.cSe dx (putF "rooms" (V.ref r) [])) := upd_same
    have hpl : p ≠ l := ne_of_none hp2 hl
    refine ⟨_, rfl, p, D.cSe, dx, _, rfl, by rw [upd_ne hpl]; exact hp2, T.cSe.cl, T.sePrices, by show 1 < 1000; decide, ?_⟩
    have hrl : r ≠ l := by
      have h1 : upd (upd H r (.lst (nv g))) p (.ins D.cSe dx (putF "rooms" (V.ref r) [])) r = some (.lst (nv g)) := by rw [upd_ne hpr.symm, upd_same]
      exact ne_of_none h1 hl
    refine k _ (fun c o e hc => ?_) ⟨dx, r, l, ?_, ?_, ?_⟩
    · rw [upd_ne hc]
      refine same_new hl _ _ ?_
      rw [upd_ne hc]
      exact same_new hrr _ _ e
    · rw [upd_same]
      have e : putF "prices" (V.ref l) (putF "rooms" (V.ref r) []) = fSe r l := by
        show (if ("rooms" : Str) = "prices" then _ else (("rooms" : Str), V.ref r) :: putF "prices" (V.ref l) []) = _
        rw [if_neg rp_]
        rfl
      rw [e]
    · rw [upd_ne hpr.symm, upd_ne hrl, upd_ne hpr.symm, upd_same]
    · rw [upd_ne hpl.symm, upd_same]
/-! ### Priced.shows -/
def spPrShows (C : Addr) : Sp := fun vs H Q _ => ∃ (o a b : Addr) (ps : List Int) (T : List (List Int)) (rent : Int) (g : List Nat), vs = [.ref o, .ref a, .int rent, .ref b] ∧ PrAt C H o ps ∧ Tab H a T ∧ IsTab T ∧ H b = some (.lst (nv g)) ∧ Giving T.length g ∧
  ps.length = T.length ∧ ∀ H', Same H H' → Q (.bl (areFit T rent g ps)) H'
theorem scPrShows : FnScope ["self", "table", "rent", "giving"] ["self", "table", "rent", "giving"] (defScope sPrShows) := ⟨rfl, rfl, rfl, by decide +kernel, rfl, by decide +kernel, by decide +kernel⟩
theorem ok_prShows (T : Txt K mg D) : Prom P w K mg base 2 D.prShows ["self", "table", "rent", "giving"] (spPrShows D.cPr) := by
  obtain ⟨fd, F⟩ := T.prShowsF
  have G := ok_areFit (P := P) (w := w) (base := base) T
  refine ⟨⟨fd, ?_, F.binds fun _ _ _ _ _ _ us hl => match us, hl with | [_, _, _, _], _ => rfl⟩, F.kp⟩
  refine F.ok scPrShows (fun vs H Q E h => ?_) (fun cdv A outer s H vs Q E hr h => ?_)
  · obtain ⟨o, a, b, ps, TT, rent, g, rfl, _⟩ := h
    rfl
  · obtain ⟨o, a, b, ps, TT, rent, g, rfl, ⟨dx, l, ho, hl⟩, ha, ht, hb, hg, hpl, k⟩ := h
    refine ⟨_, pss_one (ps_ret (pe_and (pe_cmpR op_eq (pe_callB (lenK K) (by rfl) T.zLen PySem.boot_len (pa_cons (pe_fld (pv 0) rfl) pa_nil)) (pe_callB (lenK K) (by rfl) T.zLen PySem.boot_len (pa_cons (pv 1) pa_nil)) (nomark _))
      (pe_one (pe_cl G hr T.areFit.gl (pa_cons (pv 1) (pa_cons (pv 2) (pa_cons (pv 3) (pa_cons (pe_fld (pv 0) rfl) pa_nil)))))))), ?_⟩
    obtain ⟨ts, hA, htl, hrow⟩ := id ha
    refine ⟨_, rfl, o, D.cPr, dx, _, _, rfl, ho, T.cPr.cl, T.prPrices, fPr_at l, l, _, rfl, .inl (SqL.of hl), _, rfl, _, _, rfl, .inl (SqL.of hA), rfl, true, ?_, iteT ?_⟩
    · rw [len_iv, List.length_map, htl, hpl]
      exact congrArg V.bl (decide_eq_true rfl)
    exact ⟨_, rfl, _, rfl, _, rfl, _, rfl, o, D.cPr, dx, _, _, rfl, ho, T.cPr.cl, T.prPrices, fPr_at l, a, b, l, TT, rent, g, ps, rfl, ha, ht, hb, hg, hl, hpl, k⟩
end
end RP
namespace RP
open PySem PySem.Spec PyProof.Rows L2
/-! ### len(set(xs)) of any list of whole numbers -/
def setLen (ns : List Int) : Nat := (PyProof.Rows.firstMet (fun i => ns.getD i 0) ns.length).length
def tSetLen (K : PySem.W.Frag) (ta : TE) : TE := fun σ H Q => ta σ H fun x H1 => ∃ (l : Addr) (ns : List Int), x = .ref l ∧ SqL K H1 l (iv ns) ∧ ns.length ≤ 4000 ∧ Q (.int (setLen ns : Nat)) H1
theorem pe_setLen {X : Cx} {a : PySem.Expr} {ta : TE} {p p2 q pos : Pos} (hm : X.mg "len" = none) (hm2 : X.mg "set" = none) (ha : PE X a ta) (hg : Gl X "len" := by rfl) (hg2 : Gl X "set" := by rfl) (hc : X.calm = true := by rfl)
    (na : starEach [a] X.env = (false, eval a X.env) :: starEach [] X.env := by rfl) : PE X (.Call (.Name "len" p) [.Call (.Name "set" p2) [a] [] q] [] pos) (tSetLen X.K ta) := by
  constructor
  intro pins s σ H Q I h
  refine Call_ (ld_blt I hg hm boot_len (PyProof.Rows.callWith_builtin1 (PyProof.Rows.args_cons ?_ rfl) rfl rfl))
  refine Call_ (ld_blt I hg2 hm2 boot_set (PyProof.Rows.callWith_type1 (PyProof.Rows.args_cons ?_ na) na rfl))
  refine thn (ha.run pins s σ H _ I h) ?_
  rintro v s1 ⟨x, H1, I1, r1, l, ns, rfl, hq, hl, q1⟩
  refine PyProof.Rows.args_nil ?_
  cases r1
  obtain ⟨its, r, pl, _⟩ := I1.list hq
  have sz : its.toArray.size = ns.length := by rw [List.size_toArray, ← r.length, len_iv]
  have bl : ns.length + 1 < scanBound := by unfold scanBound; omega
  refine call_set_list (I1.ok.hd hc) pl.isList (by simpa using RZ.intsAre_vals r) (by rw [sz]; exact bl) ?_
  intro h' tk hS hk
  refine PyProof.Rows.args_nil ?_
  rw [sz] at hS
  have le : setLen ns ≤ ns.length := PyProof.Rows.firstMet_length_le _ _
  obtain ⟨o, es, ep, t, ho, hex, hd, _, _, _, hf, hn⟩ := hS
  have I2 : Inv X pins σ H1 { s1 with heap := h', toks := tk } := I1.kept fun b o e => hk b o (Heap.lt_size e) e
  have hn2 : (setLen ns : Nat) = _ := hn.symm
  exact call_len_set ho hex hd hf (by rw [← hn2]; omega) ⟨.int (setLen ns : Nat), H1, I2.tok _, ⟨_, by rw [← hn2]⟩, q1⟩
/-! ### Ring.shows, as a plain function -/
abbrev zi (p : List Nat) : List Int := p.map fun i : Nat => (i : Int)
def takerOf (p : List Nat) (i : Nat) : Nat := if i = 0 then gN p (p.length - 1) else gN p (i - 1)
def ringAdd (T : List (List Int)) (g p : List Nat) (i : Nat) (more : Int) : Int := more + at2 T (takerOf p i) (gN g (gN p i)) - at2 T (takerOf p i) (gN g (takerOf p i))
def ringMore (T : List (List Int)) (g p : List Nat) : Int := run (ringAdd T g p) p.length 0
def ringShows (T : List (List Int)) (g p : List Nat) : Bool :=
  if p = [] then false else if setLen (zi p) ≠ p.length then false else if (p.all fun x => decide (x < T.length)) = true then decide (0 < ringMore T g p) else false
theorem at_prev {p : List Nat} {i : Nat} (h : i < p.length) : atI (nv p) ((i : Int) - 1) = some (V.int ((takerOf p i : Nat) : Int)) := by
  unfold takerOf
  by_cases e : i = 0
  · subst e
    rw [if_pos rfl]
    have e1 : ixN (nv p).length (((0 : Nat) : Int) - 1) = some (p.length - 1) := by
      unfold ixN
      rw [len_nv, if_neg (by omega), if_pos (by omega)]
      congr 1
      omega
    unfold atI
    rw [e1]
    exact get_nv (by omega)
  · rw [if_neg e]
    have e1 : (i : Int) - 1 = ((i - 1 : Nat) : Int) := by omega
    rw [e1]
    exact at_nv (by omega)
theorem takerOf_lt {p : List Nat} {n i : Nat} (h : ∀ x ∈ p, x < n) (hi : i < p.length) : takerOf p i < n := by
  unfold takerOf
  split
  · exact h _ (gD_mem (by omega))
  · exact h _ (gD_mem (by omega))
/-! ### Settled.shows, as a plain function -/
def isGiv (n : Nat) (g : List Nat) : Bool := decide (g.length = n) && (g.all fun x => decide (x < n)) && decide g.Nodup
theorem isGiv_iff {n : Nat} {g : List Nat} : isGiv n g = true ↔ Giving n g := by
  unfold isGiv
  rw [Bool.and_eq_true, Bool.and_eq_true, decide_eq_true_iff, decide_eq_true_iff, List.all_eq_true]
  constructor
  · rintro ⟨⟨h1, h2⟩, h3⟩
    exact ⟨h1, fun i hi => of_decide_eq_true (h2 _ (gD_mem (by omega))), fun i j hi hj e => nd_gD h3 (by omega) (by omega) e⟩
  · intro G
    exact ⟨⟨G.len, fun x hx => decide_eq_true (G.mem.mp hx)⟩, G.nodup⟩
/-- what sorts to the range is a giving -/
theorem giving_of_sorted {n : Nat} {g : List Nat} {ns : List Int} (hp : ns.Perm (zi g)) (e : ns = zi (List.range n)) : Giving n g := by
  subst e
  have h : (List.range n).Perm g := by
    have := hp.map Int.toNat
    rw [List.map_map, List.map_map] at this
    have id1 : ∀ l : List Nat, l.map (Int.toNat ∘ fun i : Nat => (i : Int)) = l := fun l => by
      rw [show (Int.toNat ∘ fun i : Nat => (i : Int)) = id from funext fun i => Int.toNat_natCast i, List.map_id]
    rw [id1, id1] at this
    exact this
  have nd : g.Nodup := h.nodup_iff.mp List.nodup_range
  have hl : g.length = n := by rw [← h.length_eq, List.length_range]
  exact ⟨hl, fun i hi => List.mem_range.mp (h.mem_iff.mpr (gD_mem (by omega))), fun i j hi hj e => nd_gD nd (by omega) (by omega) e⟩
def setShows (T : List (List Int)) (rent : Int) (g : List Nat) (ps : List Int) : Bool :=
  if isGiv T.length g = true then (if ps.length = T.length then areFit T rent g ps else false) else false
section
variable {P : Program} {w : World} {K : PySem.W.Frag} {mg : Str → Option Value} {base : Heap} {D : Adr}
/-! ### Ring.shows -/
def spRiShows (C : Addr) : Sp := fun vs H Q _ => ∃ (o a b : Addr) (p : List Nat) (T : List (List Int)) (rent : Int) (g : List Nat), vs = [.ref o, .ref a, .int rent, .ref b] ∧ RiAt C H o p ∧ p.length ≤ 100 ∧ Tab H a T ∧ IsTab T ∧ H b = some (.lst (nv g)) ∧ Giving T.length g ∧
  ∀ H', Same H H' → Q (.bl (ringShows T g p)) H'
abbrev nmRiShows : List Str := ["self", "table", "rent", "giving", "more", "at", "who", "taker"]
theorem scRiShows : FnScope nmRiShows ["self", "table", "rent", "giving"] (defScope sRiShows) := ⟨rfl, rfl, rfl, by decide +kernel, rfl, by decide +kernel, by decide +kernel⟩
theorem ok_riShows (T : Txt K mg D) : Prom P w K mg base 1 D.riShows ["self", "table", "rent", "giving"] (spRiShows D.cRi) := by
  obtain ⟨fd, F⟩ := T.riShowsF
  refine ⟨⟨fd, ?_, F.binds fun _ _ _ _ _ _ us hl => match us, hl with | [_, _, _, _], _ => rfl⟩, F.kp⟩
  refine F.ok scRiShows (fun vs H Q E h => ?_) (fun cdv A outer s H vs Q E hr h => ?_)
  · obtain ⟨o, a, b, ps, TT, rent, g, rfl, _⟩ := h
    rfl
  · obtain ⟨o, a, b, p, TT, rent, g, rfl, ⟨dx, l, ho, hl⟩, hpl, ⟨ts, hA, htl, hrow⟩, ht, hb, hg, k⟩ := h
    have nd := scRiShows.nd
    refine ⟨_, pss_cons (ps_if (PW.pt (pw_or (pt_cmpR (op_eqD hr.units) (pe_fld (pv 0) rfl) (pe_lst pa_nil) (nomark _))
        (pw_or1 (pt_cmpR op_ne (pe_setLen T.zLen T.zSet (pe_fld (pv 0) rfl)) (pe_callB (lenK K) (by rfl) T.zLen PySem.boot_len (pa_cons (pe_fld (pv 0) rfl) pa_nil)) (nomark _))))) (pss_one (ps_ret pe_bl)) pss_nil)
      (pss_cons (ps_if (pt_not (pt_val (pe_callB (cr_all rfl) (by rfl) T.zAll (by decide +kernel) (pa_cons (pe_lc (own := [("who", 6)]) (g := gName 6) (tt := tYes) rfl nd (pi_list (pe_fld (pv 0) rfl))
          (blkOk_by (N := nmRiShows) (sc := defScope sRiShows) (by decide +kernel)) (fun _ _ _ _ _ => pg_name (i := 6) nd rfl (Or.inl rfl)) (fun _ _ _ _ _ => pts_nil)
          (fun _ _ _ _ _ => pe_chain op_le op_lt pe_int (pv 6) (pe_callB (lenK K) (by rfl) T.zLen PySem.boot_len (pa_cons (pv 1) pa_nil)))) pa_nil)))) (pss_one (ps_ret pe_bl)) pss_nil)
      (pss_cons (ps_set (i := 4) nd rfl (Or.inl rfl) pe_int)
      (pss_cons (ps_for PassesOwn.never rfl (pi_enum (by rfl) T.zEnum (pa_cons (pe_fld (pv 0) rfl) pa_nil)) (pg_tup rfl (pgs_cons (pg_name (i := 5) nd rfl (Or.inl rfl)) (pgs_cons (pg_name (i := 6) nd rfl (Or.inl rfl)) pgs_nil)))
        (pss_cons (ps_set (i := 7) nd rfl (Or.inl rfl) (pe_ix (ixK K) (pe_fld (pv 0) rfl) (pe_op op_sub (pv 5) pe_int) (fun _ _ => rfl)))
        (pss_one (ps_set (i := 4) nd rfl (Or.inl rfl) (pe_op op_sub (pe_op op_add (pv 4) (pe_ix (ixK K) (pe_ix (ixK K) (pv 1) (pv 7) (fun _ _ => rfl)) (pe_ix (ixK K) (pv 3) (pv 6) (fun _ _ => rfl)) (fun _ _ => rfl)))
          (pe_ix (ixK K) (pe_ix (ixK K) (pv 1) (pv 7) (fun _ _ => rfl)) (pe_ix (ixK K) (pv 3) (pv 7) (fun _ _ => rfl)) (fun _ _ => rfl)))))))
      (pss_one (ps_ret (pe_cmpR op_gt (pv 4) pe_int (nomark _))))))), ?_⟩
    have hm := ht.most
    have hp0 := ht.pos
    have cl := T.cRi.cl
    have hl' : H l = some (.lst (iv (zi p))) := by rw [← nv_iv]; exact hl
    -- self.people == []
    refine ⟨_, rfl, o, D.cRi, dx, _, _, rfl, ho, cl, T.riPeople, fRi_at l, Nat.zero_le _, fun z hz => ?_⟩
    have s1 := same_new (o := .lst []) hz
    refine ⟨dI (zi p), dI [], dp_iv (s1 _ _ hl'), dp_iv (ns := []) upd_same, shaped_dI _, shaped_dI _, _, rfl, ?_⟩
    rw [eqv_dI]
    by_cases c1 : p = []
    · have e1 : zi p = [] := by rw [c1]; rfl
      refine iteDT e1 (iteT ?_)
      have e2 : ringShows TT g p = false := if_pos c1
      have := k _ s1
      rw [e2] at this
      exact this
    have c1' : ¬ zi p = [] := fun e => c1 (List.map_eq_nil_iff.mp e)
    refine iteDF c1' ?_
    -- len(set(..)) != len(..)
    refine ⟨_, rfl, o, D.cRi, dx, _, _, rfl, s1 _ _ ho, cl, T.riPeople, fRi_at l, l, zi p, rfl, SqL.of (s1 _ _ hl'), by rw [List.length_map]; omega, _, rfl, o, D.cRi, dx, _, _, rfl, s1 _ _ ho, cl, T.riPeople, fRi_at l, l, _, rfl, .inl (SqL.of (s1 _ _ hl)), rfl, _, rfl, ?_⟩
    rw [len_nv]
    by_cases c2 : ¬ setLen (zi p) = p.length
    · refine iteNF (fun q => c2 (by injection q with q; exact Int.ofNat.inj q)) ?_
      have e2 : ringShows TT g p = false := by
        unfold ringShows
        rw [if_neg c1, if_pos c2]
      have := k _ s1
      rw [e2] at this
      exact this
    have c2' := Classical.not_not.mp c2
    refine iteNS (by rw [c2']) ?_
    -- all in range
    refine ⟨_, rfl, o, D.cRi, dx, _, _, rfl, s1 _ _ ho, cl, T.riPeople, fRi_at l, l, rfl, ⟨_, SqL.of (s1 _ _ hl)⟩, fun L nL => lc_list (K := K) (a := l) (xs := nv p)
      (fun i H' => Same H H' ∧ H' L = some (.lst ((p.map fun x => V.bl (decide (x < TT.length))).take i))) ⟨sameNew s1 nL, upd_same⟩ (fun i H' _ h => SqL.of (h.1 _ _ hl)) ?_ ?_⟩
    · rintro i x H' hx ⟨s2, hL⟩
      have hi : i < p.length := by have := (List.getElem?_eq_some_iff.mp hx).1; rwa [len_nv] at this
      obtain rfl := is_of hx (get_nv hi)
      refine ⟨rfl, _, rfl, _, _, rfl, rfl, true, congrArg V.bl (decide_eq_true (by omega)), iteT ?_⟩
      refine ⟨_, rfl, a, _, rfl, .inl (SqL.of (s2 _ _ hA)), _, _, rfl, rfl, _, hL, take_lt (by omega), ?_⟩
      refine ⟨samePut s2 (s1.free nL), ?_⟩
      rw [upd_same, List.length_map, htl, List.take_add_one, List.getElem?_map, get_of_lt (d := 0) hi]
      have e : decide (((gN p i : Nat) : Int) < ((TT.length : Nat) : Int)) = decide (gN p i < TT.length) := decide_eq_decide.mpr (by omega)
      show some (HO.lst (_ ++ [V.bl (decide (((gN p i : Nat) : Int) < ((TT.length : Nat) : Int)))])) = _
      rw [e]
      rfl
    rintro H2 ⟨s2, hL⟩
    rw [len_nv, List.take_of_length_le (by rw [List.length_map]; exact Nat.le_refl _)] at hL
    refine ⟨L, p.map fun x => decide (x < TT.length), rfl, SqL.of (hL.trans (by rw [List.map_map]; rfl)), _, rfl, ?_⟩
    have eall : ((p.map fun x => decide (x < TT.length)).all id) = p.all fun x => decide (x < TT.length) := by rw [List.all_map]; rfl
    rw [eall]
    by_cases c3 : ¬ (p.all fun x => decide (x < TT.length)) = true
    · rw [Bool.not_eq_true] at c3
      rw [c3]
      refine iteT ?_
      have e2 : ringShows TT g p = false := by
        unfold ringShows
        rw [if_neg c1, if_neg c2, if_neg (by rw [c3]; decide)]
      have := k _ s2
      rw [e2] at this
      exact this
    have c3' := Classical.not_not.mp c3
    rw [c3']
    refine iteF ?_
    have plt : ∀ x ∈ p, x < TT.length := fun x hx => of_decide_eq_true (List.all_eq_true.mp c3' x hx)
    have e2 : ringShows TT g p = decide (0 < ringMore TT g p) := by
      unfold ringShows
      rw [if_neg c1, if_neg c2, if_pos c3']
    rw [e2] at k
    -- the sum around
    refine ⟨_, rfl, o, D.cRi, dx, _, _, rfl, s2 _ _ ho, cl, T.riPeople, fRi_at l, l, nv p, rfl, SqL.of (s2 _ _ hl), for_it (walk_enum (K := K) (a := l) (xs := nv p)) (fun i σ H' => ∃ (v5 v6 v7 : Option V), σ = [some (.ref o), some (.ref a), some (.int rent), some (.ref b), some (.int (run (ringAdd TT g p) i 0)), v5, v6, v7] ∧ Same H H')
      ⟨none, none, none, rfl, s2⟩ (fun i σ H' _ ⟨_, _, _, _, s3⟩ => SqL.of (s3 _ _ hl)) ?_ ?_⟩
    · rintro i x σ H3 H4 hi ⟨v5, v6, v7, rfl, s3⟩ ⟨Tp, x1, x2, rfl, nT, rfl, f1, f2⟩
      rw [len_nv] at hi
      obtain rfl := Option.some.inj f1
      obtain rfl := is_of f2 (get_nv hi)
      have s4 := sameNew (o := .tup [V.int (i : Nat), V.int ((gN p i : Nat) : Int)]) s3 nT
      refine ⟨Tp, _, rfl, SqT.of upd_same, rfl, _, _, rfl, _, _, rfl, rfl, ?_⟩
      refine ⟨_, rfl, o, D.cRi, dx, _, _, rfl, s4 _ _ ho, cl, T.riPeople, fRi_at l, _, rfl, _, _, rfl, rfl, l, nv p, _, _, rfl, rfl, SqL.of (s4 _ _ hl), at_prev hi, ?_⟩
      have tl : takerOf p i < TT.length := takerOf_lt plt hi
      have pl : gN p i < TT.length := plt _ (gD_mem hi)
      have tl2 : takerOf p i < ts.length := by omega
      have g1 := hg.lt _ pl
      have g2 := hg.lt _ tl
      have hrw := s4 _ _ (hrow _ ts[takerOf p i] (gR TT (takerOf p i)) (List.getElem?_eq_getElem tl2) (get_of_lt tl))
      have rl : (gR TT (takerOf p i)).length = TT.length := ht.isSq.row tl
      refine ⟨_, rfl, _, rfl, _, rfl, a, ts.map V.ref, _, _, rfl, rfl, SqL.of (s4 _ _ hA), at_ref tl2, _, rfl, _, rfl, b, nv g, _, _, rfl, rfl, SqL.of (s4 _ _ hb), at_nv (by rw [hg.len]; exact pl), ts[takerOf p i], iv (gR TT (takerOf p i)), _, _, rfl, rfl, SqL.of hrw, at_iv (by rw [rl]; exact g1), _, _, rfl, rfl, ?_⟩
      refine ⟨_, rfl, _, rfl, a, ts.map V.ref, _, _, rfl, rfl, SqL.of (s4 _ _ hA), at_ref tl2, _, rfl, _, rfl, b, nv g, _, _, rfl, rfl, SqL.of (s4 _ _ hb), at_nv (by rw [hg.len]; exact tl), ts[takerOf p i], iv (gR TT (takerOf p i)), _, _, rfl, rfl, SqL.of hrw, at_iv (by rw [rl]; exact g2), _, _, rfl, rfl, ?_⟩
      exact ⟨_, _, _, rfl, s4⟩
    · rintro σ H3 ⟨v5, v6, v7, rfl, s3⟩
      rw [len_nv]
      exact ⟨_, rfl, _, _, rfl, rfl, k _ s3⟩
/-! ### Settled.shows -/
def spSeShows (C : Addr) : Sp := fun vs H Q _ => ∃ (o a : Addr) (g : List Nat) (ps : List Int) (T : List (List Int)) (rent : Int), vs = [.ref o, .ref a, .int rent] ∧ SeAt C H o g ps ∧ Tab H a T ∧ IsTab T ∧
  ∀ H', Same H H' → Q (.bl (setShows T rent g ps)) H'
theorem scSeShows : FnScope ["self", "table", "rent"] ["self", "table", "rent"] (defScope sSeShows) := ⟨rfl, rfl, rfl, by decide +kernel, rfl, by decide +kernel, by decide +kernel⟩
theorem ok_seShows (T : Txt K mg D) : Prom P w K mg base 2 D.seShows ["self", "table", "rent"] (spSeShows D.cSe) := by
  obtain ⟨fd, F⟩ := T.seShowsF
  have G := ok_areFit (P := P) (w := w) (base := base) T
  refine ⟨⟨fd, ?_, F.binds fun _ _ _ _ _ _ us hl => match us, hl with | [_, _, _], _ => rfl⟩, F.kp⟩
  refine F.ok scSeShows (fun vs H Q E h => ?_) (fun cdv A outer s H vs Q E hr h => ?_)
  · obtain ⟨o, a, g, ps, TT, rent, rfl, _⟩ := h
    rfl
  · obtain ⟨o, a, g, ps, TT, rent, rfl, ⟨dx, r, l, ho, hrr, hl⟩, ha, ht, k⟩ := h
    refine ⟨_, pss_cons (ps_if (PW.pt (pw_or (pt_cmpR (op_neD hr.units) (pe_callB cr_sortedI (by rfl) T.zSorted (by decide +kernel) (pa_cons (pe_fld (pv 0) rfl) pa_nil))
        (pe_listRg rfl (by rfl) T.zList (prg_1 (by rfl) T.zRange (pe_callB (lenK K) (by rfl) T.zLen PySem.boot_len (pa_cons (pv 1) pa_nil)))) (nomark _))
        (pw_or1 (pt_cmpR op_ne (pe_callB (lenK K) (by rfl) T.zLen PySem.boot_len (pa_cons (pe_fld (pv 0) rfl) pa_nil)) (pe_callB (lenK K) (by rfl) T.zLen PySem.boot_len (pa_cons (pv 1) pa_nil)) (nomark _))))) (pss_one (ps_ret pe_bl)) pss_nil)
      (pss_one (ps_ret (pe_cl G hr T.areFit.gl (pa_cons (pv 1) (pa_cons (pv 2) (pa_cons (pe_fld (pv 0) rfl) (pa_cons (pe_fld (pv 0) rfl) pa_nil))))))), ?_⟩
    have hm := ht.most
    have hp0 := ht.pos
    have cl := T.cSe.cl
    obtain ⟨ts, hA, htl, hrow⟩ := id ha
    have hr' : H r = some (.lst (iv (zi g))) := by rw [← nv_iv]; exact hrr
    refine ⟨_, rfl, o, D.cSe, dx, _, _, rfl, ho, cl, T.seRooms, fSe_rooms r l, r, zi g, rfl, SqL.of hr', fun ns p hperm hsort np => ?_⟩
    have s1 := same_new (o := .lst (iv ns)) np
    refine ⟨_, rfl, a, _, rfl, .inl (SqL.of (s1 _ _ hA)), _, rfl, RgOk.of_le (by omega) (by rw [List.length_map, htl]; omega) (by omega) (by omega), fun q nq => ?_⟩
    have npq : p ≠ q := ne_of_none (upd_same (H := H) (a := p) (o := .lst (iv ns))) nq
    have s2 := sameNew (o := .lst (rgV 0 ((ts.map V.ref).length : Nat))) s1 nq
    have hp2 : upd (upd H p (.lst (iv ns))) q (.lst (rgV 0 ((ts.map V.ref).length : Nat))) p = some (.lst (iv ns)) := by rw [upd_ne npq, upd_same]
    have hq2 : upd (upd H p (.lst (iv ns))) q (.lst (rgV 0 ((ts.map V.ref).length : Nat))) q = some (.lst (iv (zi (List.range TT.length)))) := by rw [upd_same, List.length_map, htl, rgV_eq]
    generalize upd (upd H p (.lst (iv ns))) q (.lst (rgV 0 ((ts.map V.ref).length : Nat))) = H2 at s2 hp2 hq2 ⊢
    refine ⟨dI ns, dI (zi (List.range TT.length)), dp_iv hp2, dp_iv hq2, shaped_dI _, shaped_dI _, _, rfl, ?_⟩
    rw [eqv_dI]
    by_cases c1 : ¬ isGiv TT.length g = true
    · have e1 : ¬ ns = zi (List.range TT.length) := fun e => c1 (isGiv_iff.mpr (giving_of_sorted hperm e))
      refine iteNF e1 (iteT ?_)
      have e2 : setShows TT rent g ps = false := if_neg c1
      have := k _ s2
      rw [e2] at this
      exact this
    have c1' := Classical.not_not.mp c1
    have hg := isGiv_iff.mp c1'
    refine iteNS (sorted_giving hg hperm hsort) ?_
    refine ⟨_, rfl, o, D.cSe, dx, _, _, rfl, s2 _ _ ho, cl, T.sePrices, fSe_prices r l, l, _, rfl, .inl (SqL.of (s2 _ _ hl)), _, rfl, a, _, rfl, .inl (SqL.of (s2 _ _ hA)), rfl, _, rfl, ?_⟩
    rw [len_iv, List.length_map, htl]
    by_cases c2 : ¬ ps.length = TT.length
    · refine iteNF (fun q => c2 (by injection q with q; exact Int.ofNat.inj q)) ?_
      have e2 : setShows TT rent g ps = false := by
        unfold setShows
        rw [if_pos c1', if_neg c2]
      have := k _ s2
      rw [e2] at this
      exact this
    have c2' := Classical.not_not.mp c2
    refine iteNS (by rw [c2']) ?_
    have e2 : setShows TT rent g ps = areFit TT rent g ps := by
      unfold setShows
      rw [if_pos c1', if_pos c2']
    rw [e2] at k
    exact ⟨_, rfl, _, rfl, _, rfl, o, D.cSe, dx, _, _, rfl, s2 _ _ ho, cl, T.seRooms, fSe_rooms r l, _, rfl, o, D.cSe, dx, _, _, rfl, s2 _ _ ho, cl, T.sePrices, fSe_prices r l, a, r, l, TT, rent, g, ps, rfl, ha.same s2, ht, s2 _ _ hrr, hg, s2 _ _ hl, c2', fun H3 s3 => k _ (s2.trans s3)⟩
end
end RP
namespace RP
open PySem PySem.Spec PyProof.Rows L2
def ToldAt (D : Adr) (H : Hp) (p : Addr) : Told → Prop
  | .priced ps => PrAt D.cPr H p ps
  | .ring g => RiAt D.cRi H p g
theorem ToldAt.same {D : Adr} {H H' : Hp} {p : Addr} {t : Told} (h : ToldAt D H p t) (s : Same H H') : ToldAt D H' p t := by
  cases t with
  | priced ps => exact PrAt.same h s
  | ring g => exact RiAt.same h s
section
variable {P : Program} {w : World} {K : PySem.W.Frag} {mg : Str → Option Value} {base : Heap} {D : Adr}
/-! ### told_of -/
def spToldOf (D : Adr) : Sp := fun vs H Q _ => ∃ (a b : Addr) (T : List (List Int)) (rent : Int) (g : List Nat), vs = [.ref a, .int rent, .ref b] ∧ Tab H a T ∧ IsTab T ∧ H b = some (.lst (nv g)) ∧ Giving T.length g ∧
  ∀ H' p, Same H H' → ToldAt D H' p (told T rent g) → Q (.ref p) H'
abbrev nmToldOf : List Str := ["table", "rent", "giving", "around", "by", "far", "base", "room", "more"]
theorem scToldOf : FnScope nmToldOf ["table", "rent", "giving"] (defScope sToldOf) := ⟨rfl, rfl, rfl, by decide +kernel, rfl, by decide +kernel, by decide +kernel⟩
theorem ok_toldOf (T : Txt K mg D) : Prom P w K mg base 4 D.toldOf ["table", "rent", "giving"] (spToldOf D) := by
  obtain ⟨fd, F⟩ := T.toldOf.fn
  have G1 := ok_barring (P := P) (w := w) (base := base) T
  have G2 := (ok_owners (P := P) (w := w) (base := base) T).mono (j := 3) (by decide)
  have G3 := ok_bounds (P := P) (w := w) (base := base) T
  have G4 := ok_riInit (P := P) (w := w) (base := base) T
  have G5 := ok_prInit (P := P) (w := w) (base := base) T
  refine ⟨⟨fd, ?_, F.binds fun _ _ _ _ _ _ us hl => match us, hl with | [_, _, _], _ => rfl⟩, F.kp⟩
  refine F.ok scToldOf (fun vs H Q E h => ?_) (fun cdv A outer s H vs Q E hr h => ?_)
  · obtain ⟨a, b, TT, rent, g, rfl, _⟩ := h
    rfl
  · obtain ⟨a, b, TT, rent, g, rfl, ha, ht, hb, hg, k⟩ := h
    have nd := scToldOf.nd
    have hr2 : Room 2 _ := hr.mono (by decide)
    refine ⟨_, pss_cons (ps_set (i := 3) nd rfl (Or.inl rfl) (pe_cl G1 hr T.barring.gl (pa_cons (pv 0) (pa_cons (pv 2) pa_nil))))
      (pss_cons (ps_if (pt_cmp (pc_notN (pv 3)))
        (pss_cons (ps_set (i := 4) nd rfl (Or.inr rfl) (pe_cl G2 hr T.owners.gl (pa_cons (pv 2) pa_nil)))
        (pss_one (ps_ret (pe_mk T.cRi.mkr G4 hr2 T.cRi.gl (pa_cons (pe_lc (own := [("room", 7)]) (g := gName 7) (tt := tYes) rfl nd (pi_list (pv 3)) (blkOk_by (N := nmToldOf) (sc := defScope sToldOf) (by decide +kernel))
          (fun _ _ _ _ _ => pg_name (i := 7) nd rfl (Or.inl rfl)) (fun _ _ _ _ _ => pts_nil) (fun _ _ _ _ _ => pe_ix (ixK K) (pv 4) (pv 7) (fun _ _ => rfl))) pa_nil))))) pss_nil)
      (pss_cons (ps_set (i := 5) nd rfl (Or.inl rfl) (pe_ix (ixK K) (pe_cl G3 hr T.bounds.gl (pa_cons (pv 0) (pa_cons (pv 2) pa_nil))) pe_int (fun _ _ => rfl)))
      (pss_cons (ps_set (i := 6) nd rfl (Or.inr rfl) (pe_op op_sub (pv 1) (pe_callB (cr_sum rfl) (by rfl) T.zSum (by decide +kernel) (pa_cons (pv 5) pa_nil))))
      (pss_one (ps_ret (pe_mk T.cPr.mkr G5 hr2 T.cPr.gl (pa_cons (pe_lc (own := [("more", 8)]) (g := gName 8) (tt := tYes) rfl nd (pi_list (pv 5)) (blkOk_by (N := nmToldOf) (sc := defScope sToldOf) (by decide +kernel))
          (fun _ _ _ _ _ => pg_name (i := 8) nd rfl (Or.inl rfl)) (fun _ _ _ _ _ => pts_nil)
          (fun _ _ _ _ _ => pe_op op_add (pv 6) (pe_op op_mul (pe_callB (lenK K) (by rfl) T.zLen PySem.boot_len (pa_cons (pv 0) pa_nil)) (pv 8)))) pa_nil))))))), ?_⟩
    have hm := ht.most
    have hp0 := ht.pos
    refine ⟨_, rfl, _, rfl, a, b, TT, g, rfl, ha, ht, hb, hg, fun H1 s1 => ⟨fun hbar => ?_, fun around q hbar nq hq => ?_⟩⟩
    · -- no ring
      refine ⟨_, rfl, _, rfl, iteF ?_⟩
      refine ⟨_, rfl, _, rfl, a, b, TT, g, rfl, ha.same s1, ht, s1 _ _ hb, hg, fun H2 p rs s2 N => ?_⟩
      have sq := bounds_sq TT g
      have hrl : 0 < rs.length := by rw [N.len, sq.1]; omega
      refine ⟨p, rs.map V.ref, _, _, rfl, rfl, SqL.of N.top, at_ref (i := 0) hrl, ?_⟩
      have hrow := N.rows 0 rs[0] (gR (bounds TT g) 0) (List.getElem?_eq_getElem hrl) (get_of_lt (by rw [sq.1]; omega))
      refine ⟨_, rfl, _, rfl, rs[0], gR (bounds TT g) 0, rfl, SqL.of hrow, _, _, rfl, rfl, ?_⟩
      have s12 := s1.trans s2
      obtain ⟨ts, hA, htl, _⟩ := ha.same s12
      have lenB : (gR (bounds TT g) 0).length = TT.length := sq.row (by omega)
      refine ⟨_, rfl, rs[0], rfl, ⟨_, SqL.of hrow⟩, fun L nL => lc_list (K := K) (a := rs[0]) (xs := iv (gR (bounds TT g) 0)) (fun i H' => Same H2 H' ∧ H' L = some (.lst ((iv (pricesOf TT rent g)).take i))) ⟨same_new nL, upd_same⟩ (fun i H' _ h => SqL.of (h.1 _ _ hrow)) ?_ ?_⟩
      · rintro i x H3 hx ⟨s3, hL⟩
        have hi : i < TT.length := by have := (List.getElem?_eq_some_iff.mp hx).1; rwa [len_iv, lenB] at this
        obtain rfl := is_of hx (get_iv (by omega))
        refine ⟨rfl, _, rfl, _, rfl, a, _, rfl, .inl (SqL.of (s3 _ _ hA)), _, rfl, _, _, rfl, rfl, .inl ?_, _, _, rfl, rfl, _, hL, take_lt (by omega), ?_⟩
        · rw [List.length_map, htl]
          omega
        · refine ⟨samePut s3 nL, ?_⟩
          rw [upd_same, List.length_map, htl, take_iv (by rw [pricesOf_len _ _ _ (by omega)]; exact hi)]
          have e : gI (pricesOf TT rent g) i = rent - (gR (bounds TT g) 0).sum + (TT.length : Int) * gI (gR (bounds TT g) 0) i := gD_map (by omega)
          rw [e]
      · rintro H3 ⟨s3, hL⟩
        rw [List.take_of_length_le (by rw [len_iv, len_iv, pricesOf_len _ _ _ (by omega), lenB]; exact Nat.le_refl _)] at hL
        intro x dx nx ndx nex
        have hxd : upd (upd H3 dx (.own x)) x (.ins D.cPr dx []) L = some (.lst (iv (pricesOf TT rent g))) := by
          rw [upd_ne (ne_of_none hL nx), upd_ne (ne_of_none hL ndx)]
          exact hL
        refine ⟨x, L, dx, pricesOf TT rent g, rfl, upd_same, hxd, fun H4 kp hp => ⟨rfl, ?_⟩⟩
        refine k H4 x (s12.trans (s3.trans (Kept.same nx ndx kp))) ?_
        have e : told TT rent g = .priced (pricesOf TT rent g) := by
          unfold told
          rw [hbar]
        rw [e]
        exact hp
    · -- a ring
      obtain ⟨hlt, hlen⟩ := barring_lt hbar
      refine ⟨_, rfl, _, rfl, iteT ?_⟩
      refine ⟨_, rfl, b, g, rfl, s1 _ _ hb, by rw [hg.len]; exact hg, by rw [hg.len]; exact hm, fun H2 o s2 no ho => ?_⟩
      have hq2 := s2 _ _ hq
      have s12 := s1.trans s2
      have ol := hg.owners.1
      refine ⟨_, rfl, q, rfl, ⟨_, SqL.of hq2⟩, fun L nL => lc_list (K := K) (a := q) (xs := nv around) (fun i H' => Same H2 H' ∧ H' L = some (.lst ((nv (around.map (gN (owners g)))).take i))) ⟨same_new nL, upd_same⟩ (fun i H' _ h => SqL.of (h.1 _ _ hq2)) ?_ ?_⟩
      · rintro i x H3 hx ⟨s3, hL⟩
        have hi : i < around.length := by have := (List.getElem?_eq_some_iff.mp hx).1; rwa [len_nv] at this
        obtain rfl := is_of hx (get_nv hi)
        have hai : gN around i < TT.length := hlt _ (gD_mem hi)
        refine ⟨rfl, _, rfl, _, rfl, o, nv (owners g), _, _, rfl, rfl, SqL.of (s3 _ _ ho), at_nv (by omega), _, hL, take_lt (by omega), ?_⟩
        refine ⟨samePut s3 nL, ?_⟩
        have e : gN (around.map (gN (owners g))) i = gN (owners g) (gN around i) := gD_map hi
        rw [upd_same, take_nv (by rw [List.length_map]; exact hi), e]
      · rintro H3 ⟨s3, hL⟩
        rw [List.take_of_length_le (by rw [len_nv, len_nv, List.length_map]; exact Nat.le_refl _)] at hL
        intro x dx nx ndx nex
        have hxd : upd (upd H3 dx (.own x)) x (.ins D.cRi dx []) L = some (.lst (nv (around.map (gN (owners g))))) := by
          rw [upd_ne (ne_of_none hL nx), upd_ne (ne_of_none hL ndx)]
          exact hL
        refine ⟨x, L, dx, around.map (gN (owners g)), rfl, upd_same, hxd, fun H4 kp hp => ⟨rfl, ?_⟩⟩
        refine k H4 x (s12.trans (s3.trans (Kept.same nx ndx kp))) ?_
        have e : told TT rent g = .ring (around.map (gN (owners g))) := by
          unfold told
          rw [hbar]
        rw [e]
        exact hp
/-! ### told -/
def spTold (D : Adr) : Sp := spToldOf D
theorem scTold : FnScope ["table", "rent", "giving"] ["table", "rent", "giving"] (defScope sTold) := ⟨rfl, rfl, rfl, by decide +kernel, rfl, by decide +kernel, by decide +kernel⟩
theorem ok_told (T : Txt K mg D) : Prom P w K mg base 5 D.told ["table", "rent", "giving"] (spTold D) := by
  obtain ⟨fd, F⟩ := T.told.fn
  have G1 := (ok_askT (P := P) (w := w) (base := base) T).mono (j := 4) (by decide)
  have G2 := (ok_askR (P := P) (w := w) (base := base) T).mono (j := 4) (by decide)
  have G3 := (ok_askG (P := P) (w := w) (base := base) T).mono (j := 4) (by decide)
  have G4 := ok_toldOf (P := P) (w := w) (base := base) T
  refine ⟨⟨fd, ?_, F.binds fun _ _ _ _ _ _ us hl => match us, hl with | [_, _, _], _ => rfl⟩, F.kp⟩
  refine F.ok scTold (fun vs H Q E h => ?_) (fun cdv A outer s H vs Q E hr h => ?_)
  · obtain ⟨a, b, TT, rent, g, rfl, _⟩ := h
    rfl
  · obtain ⟨a, b, TT, rent, g, rfl, ha, ht, hb, hg, k⟩ := h
    refine ⟨_, pss_cons (ps_expr (pe_cl G1 hr T.askT.gl (pa_cons (pv 0) pa_nil))) (pss_cons (ps_expr (pe_cl G2 hr T.askR.gl (pa_cons (pv 1) pa_nil)))
      (pss_cons (ps_expr (pe_cl G3 hr T.askG.gl (pa_cons (pv 0) (pa_cons (pv 2) pa_nil)))) (pss_one (ps_ret (pe_cl G4 hr T.toldOf.gl (pa_cons (pv 0) (pa_cons (pv 1) (pa_cons (pv 2) pa_nil)))))))), ?_⟩
    refine ⟨_, rfl, a, TT, rfl, ha, ht, fun H1 s1 => ?_⟩
    refine ⟨_, rfl, rent, rfl, ?_⟩
    refine ⟨_, rfl, _, rfl, a, b, TT, g, rfl, ha.same s1, ht, s1 _ _ hb, hg, fun H2 s2 => ?_⟩
    have s12 := s1.trans s2
    exact ⟨_, rfl, _, rfl, _, rfl, a, b, TT, rent, g, rfl, ha.same s12, ht, s12 _ _ hb, hg, fun H3 p s3 hp => k H3 p (s12.trans s3) hp⟩
/-! ### between, where prices stand -/
def spBetween : Sp := fun vs H Q _ => ∃ (a b : Addr) (T : List (List Int)) (rent : Int) (g : List Nat) (room : Nat), vs = [.ref a, .int rent, .ref b, .int (room : Nat)] ∧ Tab H a T ∧ IsTab T ∧ H b = some (.lst (nv g)) ∧ Giving T.length g ∧ room < T.length ∧ barring T g = none ∧
  ∀ H' p, Same H H' → H p = none → H' p = some (.tup [.int (least T rent g room), .int (greatest T rent g room)]) → Q (.ref p) H'
abbrev nmBetween : List Str := ["table", "rent", "giving", "room", "far", "row"]
theorem scBetween : FnScope nmBetween ["table", "rent", "giving", "room"] (defScope sBetween) := ⟨rfl, rfl, rfl, by decide +kernel, rfl, by decide +kernel, by decide +kernel⟩
theorem ok_between (T : Txt K mg D) : Prom P w K mg base 4 D.between ["table", "rent", "giving", "room"] spBetween := by
  obtain ⟨fd, F⟩ := T.between.fn
  have G1 := ok_askT (P := P) (w := w) (base := base) T
  have G2 := (ok_askR (P := P) (w := w) (base := base) T).mono (j := 3) (by decide)
  have G3 := ok_askG (P := P) (w := w) (base := base) T
  have G4 := (ok_isNum (P := P) (w := w) (base := base) T).mono (j := 3) (by decide)
  have G5 := ok_barring (P := P) (w := w) (base := base) T
  have G6 := ok_bounds (P := P) (w := w) (base := base) T
  refine ⟨⟨fd, ?_, F.binds fun _ _ _ _ _ _ us hl => match us, hl with | [_, _, _, _], _ => rfl⟩, F.kp⟩
  refine F.ok scBetween (fun vs H Q E h => ?_) (fun cdv A outer s H vs Q E hr h => ?_)
  · obtain ⟨a, b, TT, rent, g, room, rfl, _⟩ := h
    rfl
  · obtain ⟨a, b, TT, rent, g, room, rfl, ha, ht, hb, hg, hroom, hbar, k⟩ := h
    have nd := scBetween.nd
    refine ⟨_, pss_cons (ps_expr (pe_cl G1 hr T.askT.gl (pa_cons (pv 0) pa_nil))) (pss_cons (ps_expr (pe_cl G2 hr T.askR.gl (pa_cons (pv 1) pa_nil)))
      (pss_cons (ps_expr (pe_cl G3 hr T.askG.gl (pa_cons (pv 0) (pa_cons (pv 2) pa_nil))))
      (pss_cons (ps_if (PW.pt (pw_or (pt_not (pt_val (pe_cl G4 hr T.isNum.gl (pa_cons (pv 3) pa_nil)))) (pw_or1 (pt_not (pt_chain op_le op_lt pe_int (pv 3) (pe_callB (lenK K) (by rfl) T.zLen PySem.boot_len (pa_cons (pv 0) pa_nil))))))) (pss_one ps_never) pss_nil)
      (pss_cons (ps_if (pt_cmp (pc_notN (pe_cl G5 hr T.barring.gl (pa_cons (pv 0) (pa_cons (pv 2) pa_nil))))) (pss_one ps_never) pss_nil)
      (pss_cons (ps_set (i := 4) nd rfl (Or.inl rfl) (pe_cl G6 hr T.bounds.gl (pa_cons (pv 0) (pa_cons (pv 2) pa_nil))))
      (pss_one (ps_ret (pe_tup (pa_cons (pe_op op_sub (pv 1) (pe_callB (cr_sum rfl) (by rfl) T.zSum (by decide +kernel) (pa_cons (pe_ix (ixK K) (pv 4) (pv 3) (fun _ _ => rfl)) pa_nil)))
        (pa_cons (pe_op op_add (pv 1) (pe_callB (cr_sum rfl) (by rfl) T.zSum (by decide +kernel) (pa_cons (pe_lc (own := [("row", 5)]) (g := gName 5) (tt := tYes) rfl nd (pi_list (pv 4)) (blkOk_by (N := nmBetween) (sc := defScope sBetween) (by decide +kernel))
          (fun _ _ _ _ _ => pg_name (i := 5) nd rfl (Or.inl rfl)) (fun _ _ _ _ _ => pts_nil) (fun _ _ _ _ _ => pe_ix (ixK K) (pv 5) (pv 3) (fun _ _ => rfl))) pa_nil))) pa_nil)))))))))), ?_⟩
    have hm := ht.most
    have hp0 := ht.pos
    refine ⟨_, rfl, a, TT, rfl, ha, ht, fun H1 s1 => ?_⟩
    refine ⟨_, rfl, rent, rfl, ?_⟩
    refine ⟨_, rfl, _, rfl, a, b, TT, g, rfl, ha.same s1, ht, s1 _ _ hb, hg, fun H2 s2 => ?_⟩
    have s12 := s1.trans s2
    obtain ⟨ts, hA, htl, _⟩ := ha.same s12
    refine ⟨_, rfl, _, rfl, true, rfl, iteF ?_⟩
    refine ⟨_, rfl, _, _, rfl, rfl, true, congrArg V.bl (decide_eq_true (by omega)), iteT ?_⟩
    refine ⟨_, rfl, a, _, rfl, .inl (SqL.of hA), _, _, rfl, rfl, true, ?_, iteF ?_⟩
    · rw [List.length_map, htl]
      exact congrArg V.bl (decide_eq_true (by omega))
    refine ⟨_, rfl, _, rfl, a, b, TT, g, rfl, ha.same s12, ht, s12 _ _ hb, hg, fun H3 s3 => ⟨fun _ => ?_, fun around q hbar' => ?_⟩⟩
    · refine ⟨_, rfl, iteF ?_⟩
      have s13 := s12.trans s3
      refine ⟨_, rfl, _, rfl, a, b, TT, g, rfl, ha.same s13, ht, s13 _ _ hb, hg, fun H4 p rs s4 N => ?_⟩
      have s14 := s13.trans s4
      have sq := bounds_sq TT g
      have hrl : rs.length = TT.length := by rw [N.len, sq.1]
      have hr1 : room < rs.length := by omega
      have hrow := N.rows room rs[room] (gR (bounds TT g) room) (List.getElem?_eq_getElem hr1) (get_of_lt (by rw [sq.1]; omega))
      refine ⟨_, rfl, _, rfl, _, rfl, p, rs.map V.ref, _, _, rfl, rfl, SqL.of N.top, at_ref hr1, rs[room], gR (bounds TT g) room, rfl, SqL.of hrow, _, _, rfl, rfl, ?_⟩
      refine ⟨_, rfl, _, rfl, p, rfl, ⟨_, SqL.of N.top⟩, fun L nL => lc_list (K := K) (a := p) (xs := rs.map V.ref) (fun i H' => Same H4 H' ∧ H' L = some (.lst ((iv ((bounds TT g).map fun row => gI row room)).take i))) ⟨same_new nL, upd_same⟩ (fun i H' _ h => SqL.of (h.1 _ _ N.top)) ?_ ?_⟩
      · rintro i x H5 hx ⟨s5, hL⟩
        have hi : i < rs.length := by have := (List.getElem?_eq_some_iff.mp hx).1; rwa [List.length_map] at this
        obtain rfl := is_of hx (get_ref hi)
        have hi2 : i < (bounds TT g).length := by rw [sq.1]; omega
        have hri := s5 _ _ (N.rows i rs[i] (gR (bounds TT g) i) (List.getElem?_eq_getElem hi) (get_of_lt hi2))
        have li : (gR (bounds TT g) i).length = TT.length := sq.row (by omega)
        refine ⟨rfl, _, rfl, _, rfl, rs[i], iv (gR (bounds TT g) i), _, _, rfl, rfl, SqL.of hri, at_iv (i := room) (by omega), _, hL, take_lt (by omega), ?_⟩
        refine ⟨samePut s5 nL, ?_⟩
        have e : gI ((bounds TT g).map fun row => gI row room) i = gI (gR (bounds TT g) i) room := gD_map hi2
        rw [upd_same, take_iv (by rw [List.length_map]; exact hi2), e]
      · rintro H5 ⟨s5, hL⟩
        rw [List.take_of_length_le (by rw [len_iv, List.length_map, List.length_map, sq.1, hrl]; exact Nat.le_refl _)] at hL
        refine ⟨L, (bounds TT g).map fun row => gI row room, rfl, SqL.of hL, _, _, rfl, rfl, by show 2 ≤ sizeLine; decide, fun q nq => ?_⟩
        have s15 := s14.trans s5
        exact k _ q (sameNew s15 nq) (s15.free nq) upd_same
    · rw [hbar] at hbar'
      cases hbar'
end
end RP
namespace RP
open PySem PySem.Spec PyProof.Rows L2
/-! ### lists of None and numbers; membership -/
def oV : Option Int → V
  | none => .non
  | some x => .int x
abbrev ov (l : List (Option Int)) : List V := l.map oV
theorem len_ov (l : List (Option Int)) : (ov l).length = l.length := List.length_map ..
theorem get_ov {l : List (Option Int)} {i : Nat} (h : i < l.length) : (ov l)[i]? = some (oV (gO l i)) := by
  rw [List.getElem?_map, get_of_lt (d := none) h]; rfl
theorem at_ov {l : List (Option Int)} {i : Nat} (h : i < l.length) : atI (ov l) (i : Int) = some (oV (gO l i)) := atI_nat (get_ov h)
theorem set_ov (l : List (Option Int)) (i : Nat) (x : Int) : (ov l).set i (V.int x) = ov (l.set i (some x)) := by
  exact (List.map_set (f := oV) (a := some x)).symm
theorem rep_ov (n : Nat) : List.replicate n V.non = ov (List.replicate n none) := by
  unfold ov
  rw [List.map_replicate]; rfl
theorem at_ivE {ns : List Int} {i : Nat} {z : Int} (e : z = (i : Int)) (h : i < ns.length) : atI (iv ns) z = some (V.int (gI ns i)) := by rw [e]; exact at_iv h
theorem at_refE {rs : List Addr} {i : Nat} {z : Int} (e : z = (i : Int)) (h : i < rs.length) : atI (rs.map V.ref) z = some (V.ref rs[i]) := by rw [e]; exact at_ref h
theorem flat_nv (l : List Nat) : (nv l).all flatV = true := by
  rw [List.all_map, List.all_eq_true]
  intro x _
  rfl
theorem inV_nv (r : Nat) : ∀ l : List Nat, inV (V.int (r : Nat)) (nv l) = decide (r ∈ l)
  | [] => rfl
  | x :: xs => by
    have ih := inV_nv r xs
    show (eqV (V.int (x : Nat)) (V.int (r : Nat)) || inV (V.int (r : Nat)) (nv xs)) = _
    rw [ih]
    have e : eqV (V.int (x : Nat)) (V.int (r : Nat)) = decide (x = r) := by
      show ((x : Int) == (r : Int)) = _
      rw [Bool.eq_iff_iff]
      simp
      omega
    rw [e]
    by_cases h1 : r = x
    · subst h1; simp
    · have h2 : ¬ x = r := fun q => h1 q.symm
      simp [h1, h2]
theorem rooms_at {n i : Nat} (h : i < n) : gN ((List.range n).map (· + 1)) i = i + 1 := gD_mapR h
theorem rooms_len (n : Nat) : (nv ((List.range n).map (· + 1))).length = n := by rw [len_nv, List.length_map, List.length_range]
theorem get_rooms {n i : Nat} (h : i < n) : (nv ((List.range n).map (· + 1)))[i]? = some (V.int ((i + 1 : Nat) : Int)) := by
  rw [get_nv (by rw [List.length_map, List.length_range]; exact h), rooms_at h]
/-- the filtered rooms up to i -/
theorem openUpto_succ (p : Nat → Bool) (i : Nat) : ((List.range (i + 1)).map (· + 1)).filter p = ((List.range i).map (· + 1)).filter p ++ (if p (i + 1) = true then [i + 1] else []) := by
  rw [List.range_succ, List.map_append, List.filter_append]
  congr 1
  rw [List.map_cons, List.map_nil, List.filter_cons, List.filter_nil]
theorem openUpto_len (p : Nat → Bool) (i : Nat) : (((List.range i).map (· + 1)).filter p).length ≤ i := by
  have := List.length_filter_le p ((List.range i).map (· + 1))
  simpa using this
theorem grow_stop {T : List (List Int)} {ow : List Nat} {s : Grow} (h : gN ow s.here = 0) : ∀ m, grow T ow m s = s
  | 0 => rfl
  | m + 1 => by
    unfold grow
    rw [if_pos h]
theorem notin_t {r : Nat} {l : List Nat} {A B : Prop} (h : ¬ r ∈ l) (a : A) : if (if true = true then !inV (V.int (r : Nat)) (nv l) else inV (V.int (r : Nat)) (nv l)) = true then A else B := by
  rw [if_pos rfl, inV_nv, decide_eq_false h]
  exact iteT a
theorem notin_f {r : Nat} {l : List Nat} {A B : Prop} (h : r ∈ l) (b : B) : if (if true = true then !inV (V.int (r : Nat)) (nv l) else inV (V.int (r : Nat)) (nv l)) = true then A else B := by
  rw [if_pos rfl, inV_nv, decide_eq_true h]
  exact iteF b
theorem nv_app (l : List Nat) (x : Nat) : nv l ++ [V.int (x : Nat)] = nv (l ++ [x]) := by
  unfold nv
  rw [List.map_append]
  rfl
theorem iv_app (l : List Int) (x : Int) : iv l ++ [V.int x] = iv (l ++ [x]) := by
  unfold iv
  rw [List.map_append]
  rfl
/-! ### where put_in's lists stand -/
structure PLoc where
  m : Addr
  t : Addr
  o : Addr
  r : Addr
  l : Addr
  a : Addr
  d : Addr
structure PLoc.Ok (H0 : Hp) (A : PLoc) : Prop where
  fm : H0 A.m = none
  ft : H0 A.t = none
  fo : H0 A.o = none
  fr : H0 A.r = none
  fl : H0 A.l = none
  fa : H0 A.a = none
  fd : H0 A.d = none
  mt : A.m ≠ A.t
  mo : A.m ≠ A.o
  mr : A.m ≠ A.r
  ml : A.m ≠ A.l
  ma : A.m ≠ A.a
  md : A.m ≠ A.d
  to : A.t ≠ A.o
  tr : A.t ≠ A.r
  tl : A.t ≠ A.l
  ta : A.t ≠ A.a
  td : A.t ≠ A.d
  or_ : A.o ≠ A.r
  ol : A.o ≠ A.l
  oa : A.o ≠ A.a
  od : A.o ≠ A.d
  rl : A.r ≠ A.l
  ra : A.r ≠ A.a
  rd : A.r ≠ A.d
  la : A.l ≠ A.a
  ld : A.l ≠ A.d
  ad : A.a ≠ A.d
structure PAt (n : Nat) (H0 H : Hp) (A : PLoc) (s : Grow) (ow : List Nat) : Prop where
  ok : A.Ok H0
  same : Same H0 H
  m : H A.m = some (.lst (iv s.mine))
  t : H A.t = some (.lst (iv s.theirs))
  o : H A.o = some (.lst (nv ow))
  r : H A.r = some (.lst (nv ((List.range n).map (· + 1))))
  l : H A.l = some (.lst (ov s.lst))
  a : H A.a = some (.lst (nv s.ahead))
  d : H A.d = some (.lst (nv s.done))
section
variable {n : Nat} {H0 H H' : Hp} {A : PLoc} {s : Grow} {ow : List Nat}
theorem PAt.more (B : PAt n H0 H A s ow) (e : Same H H') : PAt n H0 H' A s ow :=
  ⟨B.ok, B.same.trans e, e _ _ B.m, e _ _ B.t, e _ _ B.o, e _ _ B.r, e _ _ B.l, e _ _ B.a, e _ _ B.d⟩
theorem PAt.setM (B : PAt n H0 H A s ow) (x : List Int) : PAt n H0 (upd H A.m (.lst (iv x))) A { s with mine := x } ow :=
  ⟨B.ok, samePut B.same B.ok.fm, upd_same, by rw [upd_ne B.ok.mt.symm]; exact B.t, by rw [upd_ne B.ok.mo.symm]; exact B.o, by rw [upd_ne B.ok.mr.symm]; exact B.r, by rw [upd_ne B.ok.ml.symm]; exact B.l, by rw [upd_ne B.ok.ma.symm]; exact B.a, by rw [upd_ne B.ok.md.symm]; exact B.d⟩
theorem PAt.setT (B : PAt n H0 H A s ow) (x : List Int) : PAt n H0 (upd H A.t (.lst (iv x))) A { s with theirs := x } ow :=
  ⟨B.ok, samePut B.same B.ok.ft, by rw [upd_ne B.ok.mt]; exact B.m, upd_same, by rw [upd_ne B.ok.to.symm]; exact B.o, by rw [upd_ne B.ok.tr.symm]; exact B.r, by rw [upd_ne B.ok.tl.symm]; exact B.l, by rw [upd_ne B.ok.ta.symm]; exact B.a, by rw [upd_ne B.ok.td.symm]; exact B.d⟩
theorem PAt.setO (B : PAt n H0 H A s ow) (x : List Nat) : PAt n H0 (upd H A.o (.lst (nv x))) A s x :=
  ⟨B.ok, samePut B.same B.ok.fo, by rw [upd_ne B.ok.mo]; exact B.m, by rw [upd_ne B.ok.to]; exact B.t, upd_same, by rw [upd_ne B.ok.or_.symm]; exact B.r, by rw [upd_ne B.ok.ol.symm]; exact B.l, by rw [upd_ne B.ok.oa.symm]; exact B.a, by rw [upd_ne B.ok.od.symm]; exact B.d⟩
theorem PAt.setL (B : PAt n H0 H A s ow) (x : List (Option Int)) : PAt n H0 (upd H A.l (.lst (ov x))) A { s with lst := x } ow :=
  ⟨B.ok, samePut B.same B.ok.fl, by rw [upd_ne B.ok.ml]; exact B.m, by rw [upd_ne B.ok.tl]; exact B.t, by rw [upd_ne B.ok.ol]; exact B.o, by rw [upd_ne B.ok.rl]; exact B.r, upd_same, by rw [upd_ne B.ok.la.symm]; exact B.a, by rw [upd_ne B.ok.ld.symm]; exact B.d⟩
theorem PAt.setA (B : PAt n H0 H A s ow) (x : List Nat) : PAt n H0 (upd H A.a (.lst (nv x))) A { s with ahead := x } ow :=
  ⟨B.ok, samePut B.same B.ok.fa, by rw [upd_ne B.ok.ma]; exact B.m, by rw [upd_ne B.ok.ta]; exact B.t, by rw [upd_ne B.ok.oa]; exact B.o, by rw [upd_ne B.ok.ra]; exact B.r, by rw [upd_ne B.ok.la]; exact B.l, upd_same, by rw [upd_ne B.ok.ad.symm]; exact B.d⟩
theorem PAt.setD (B : PAt n H0 H A s ow) (x : List Nat) (h : Nat) : PAt n H0 (upd H A.d (.lst (nv x))) A { s with done := x, here := h } ow :=
  ⟨B.ok, samePut B.same B.ok.fd, by rw [upd_ne B.ok.md]; exact B.m, by rw [upd_ne B.ok.td]; exact B.t, by rw [upd_ne B.ok.od]; exact B.o, by rw [upd_ne B.ok.rd]; exact B.r, by rw [upd_ne B.ok.ld]; exact B.l, by rw [upd_ne B.ok.ad]; exact B.a, upd_same⟩
end
section
variable {P : Program} {w : World} {K : PySem.W.Frag} {mg : Str → Option Value} {base : Heap} {D : Adr}
/-! ### put_in -/
def spPutIn : Sp := fun vs H Q _ => ∃ (H0 : Hp) (a am at_ ao : Addr) (T : List (List Int)) (k : Nat) (p : Put), vs = [.ref a, .int ((k + 1 : Nat) : Int), .ref am, .ref at_, .ref ao] ∧ Same H0 H ∧ Tab H0 a T ∧ IsTab T ∧ OInv T k p ∧ k + 1 ≤ T.length ∧
  H0 am = none ∧ H0 at_ = none ∧ H0 ao = none ∧ am ≠ at_ ∧ am ≠ ao ∧ at_ ≠ ao ∧ H am = some (.lst (iv p.mine)) ∧ H at_ = some (.lst (iv p.theirs)) ∧ H ao = some (.lst (nv p.owner)) ∧
  ∀ H', Same H0 H' → H' am = some (.lst (iv (putIn T (k + 1) p).mine)) → H' at_ = some (.lst (iv (putIn T (k + 1) p).theirs)) → H' ao = some (.lst (nv (putIn T (k + 1) p).owner)) → Q .non H'
abbrev nmPutIn : List Str := ["table", "who", "mine", "theirs", "owner", "rooms", "least", "ahead", "done", "here", "now", "room", "cost", "by"]
theorem scPutIn : FnScope nmPutIn ["table", "who", "mine", "theirs", "owner"] (defScope sPutIn) := ⟨rfl, rfl, rfl, by decide +kernel, rfl, by decide +kernel, by decide +kernel⟩
theorem ok_putIn (T : Txt K mg D) : Prom P w K mg base 1 D.putIn ["table", "who", "mine", "theirs", "owner"] spPutIn := by
  obtain ⟨fd, F⟩ := T.putIn.fn
  refine ⟨⟨fd, ?_, F.binds fun _ _ _ _ _ _ us hl => match us, hl with | [_, _, _, _, _], _ => rfl⟩, F.kp⟩
  refine F.ok scPutIn (fun vs H Q E h => ?_) (fun cdv A_ outer s_ H vs Q E hr h => ?_)
  · obtain ⟨H0, a, am, at_, ao, TT, k, p, rfl, _⟩ := h
    rfl
  · obtain ⟨H0, a, am, at_, ao, TT, k, p, rfl, s0, ha, ht, O, hk, fm, ft, fo, mt, mo, to, hM, hT, hO, q⟩ := h
    have nd := scPutIn.nd
    refine ⟨_, pss_cons (ps_set (i := 5) nd rfl (Or.inl rfl) (pe_listRg rfl (by rfl) T.zList (prg_2 (by rfl) T.zRange pe_int (pe_op op_add (pe_callB (lenK K) (by rfl) T.zLen PySem.boot_len (pa_cons (pv 0) pa_nil)) pe_int))))
      (pss_cons (ps_set (i := 6) nd rfl (Or.inr rfl) (pe_op op_rep (pe_lst (pa_cons pe_non pa_nil)) (pe_op op_add (pe_callB (lenK K) (by rfl) T.zLen PySem.boot_len (pa_cons (pv 0) pa_nil)) pe_int)))
      (pss_cons (ps_set (i := 7) nd rfl (Or.inl rfl) (pe_op op_rep (pe_lst (pa_cons pe_int pa_nil)) (pe_op op_add (pe_callB (lenK K) (by rfl) T.zLen PySem.boot_len (pa_cons (pv 0) pa_nil)) pe_int)))
      (pss_cons (ps_set (i := 8) nd rfl (Or.inr rfl) (pe_lst (pa_cons pe_int pa_nil)))
      (pss_cons (ps_asg (pv 1) (pg_sub (pv 4) pe_int set_list))
      (pss_cons (ps_set (i := 9) nd rfl (Or.inl rfl) pe_int)
      (pss_cons (ps_while PassesOwn.never (pt_cmpR op_ne (pe_ix (ixK K) (pv 4) (pv 9) (fun _ _ => rfl)) pe_int (nomark _))
        (pss_cons (ps_set (i := 10) nd rfl (Or.inl rfl) (pe_ix (ixK K) (pv 4) (pv 9) (fun _ _ => rfl)))
        (pss_cons (ps_for PassesOwn.never rfl (pi_list (pv 5)) (pg_name (i := 11) nd rfl (Or.inl rfl))
          (pss_cons (ps_set (i := 12) nd rfl (Or.inl rfl) (pe_op op_sub (pe_op op_sub (pe_un un_neg (pe_ix (ixK K) (pe_ix (ixK K) (pv 0) (pe_op op_sub (pv 10) pe_int) (fun _ _ => rfl)) (pe_op op_sub (pv 11) pe_int) (fun _ _ => rfl))) (pe_ix (ixK K) (pv 2) (pv 10) (fun _ _ => rfl))) (pe_ix (ixK K) (pv 3) (pv 11) (fun _ _ => rfl))))
          (pss_one (ps_if (PW.pt (pw_and (pt_cmpR (notInK K) (pv 11) (pv 8) rfl) (pw_and1 (PW.pt (pw_or (pt_cmp (pc_isN (pe_ix (ixK K) (pv 6) (pv 11) (fun _ _ => rfl)))) (pw_or1 (pt_cmpR op_lt (pv 12) (pe_ix (ixK K) (pv 6) (pv 11) (fun _ _ => rfl)) (nomark _))))))))
            (pss_cons (ps_asg (pv 12) (pg_sub (pv 6) (pv 11) set_list)) (pss_one (ps_asg (pv 9) (pg_sub (pv 7) (pv 11) set_list)))) pss_nil))))
        (pss_cons (ps_set (i := 13) nd rfl (Or.inl rfl) (pe_callB (cr_min rfl) (by rfl) T.zMin (by decide +kernel) (pa_cons (pe_lc (own := [("room", 11)]) (g := gName 11) rfl nd (pi_list (pv 5)) (blkOk_by (N := nmPutIn) (sc := defScope sPutIn) (by decide +kernel))
          (fun _ _ _ _ _ => pg_name (i := 11) nd rfl (Or.inl rfl)) (fun _ _ _ _ _ => pts_one (pt_cmpR (notInK K) (pv 11) (pv 8) rfl)) (fun _ _ _ _ _ => pe_ix (ixK K) (pv 6) (pv 11) (fun _ _ => rfl))) pa_nil)))
        (pss_cons (ps_for PassesOwn.never rfl (pi_list (pv 8)) (pg_name (i := 11) nd rfl (Or.inl rfl))
          (pss_cons (ps_asg (pe_op op_add (pe_ix (ixK K) (pv 2) (pe_ix (ixK K) (pv 4) (pv 11) (fun _ _ => rfl)) (fun _ _ => rfl)) (pv 13)) (pg_sub (pv 2) (pe_ix (ixK K) (pv 4) (pv 11) (fun _ _ => rfl)) set_list))
          (pss_one (ps_asg (pe_op op_sub (pe_ix (ixK K) (pv 3) (pv 11) (fun _ _ => rfl)) (pv 13)) (pg_sub (pv 3) (pv 11) set_list)))))
        (pss_cons (ps_for PassesOwn.never rfl (pi_list (pv 5)) (pg_name (i := 11) nd rfl (Or.inl rfl))
          (pss_one (ps_if (pt_cmpR (notInK K) (pv 11) (pv 8) rfl) (pss_one (ps_asg (pe_op op_sub (pe_ix (ixK K) (pv 6) (pv 11) (fun _ _ => rfl)) (pv 13)) (pg_sub (pv 6) (pv 11) set_list))) pss_nil)))
        (pss_cons (ps_set (i := 9) nd rfl (Or.inl rfl) (pe_ix (ixK K) (pe_lc (own := [("room", 11)]) (g := gName 11) rfl nd (pi_list (pv 5)) (blkOk_by (N := nmPutIn) (sc := defScope sPutIn) (by decide +kernel))
          (fun _ _ _ _ _ => pg_name (i := 11) nd rfl (Or.inl rfl)) (fun _ _ _ _ _ => pts_one (PW.pt (pw_and (pt_cmpR (notInK K) (pv 11) (pv 8) rfl) (pw_and1 (pt_cmpR op_eq (pe_ix (ixK K) (pv 6) (pv 11) (fun _ _ => rfl)) pe_int (nomark _)))))) (fun _ _ _ _ _ => pv 11)) pe_int (fun _ _ => rfl)))
        (pss_one (ps_expr (pe_bm PySem.F.plainAttrs_list PySem.F.slot_list_append PySem.F.type_list_append mt_append (pv 8) (pa_cons (pv 9) pa_nil)))))))))))
      (pss_one (ps_while PassesOwn.never (pt_cmpR op_ne (pv 9) pe_int (nomark _))
        (pss_cons (ps_asg (pe_ix (ixK K) (pv 4) (pe_ix (ixK K) (pv 7) (pv 9) (fun _ _ => rfl)) (fun _ _ => rfl)) (pg_sub (pv 4) (pv 9) set_list))
        (pss_one (ps_set (i := 9) nd rfl (Or.inl rfl) (pe_ix (ixK K) (pv 7) (pv 9) (fun _ _ => rfl))))))))))))), ?_⟩
    have hm := ht.most
    have hp0 := ht.pos
    have big : (64 : Nat) ≤ sizeLine := by decide
    obtain ⟨ts, hA0, htl, hrow0⟩ := ha
    have hA := s0 _ _ hA0
    -- rooms
    refine ⟨_, rfl, _, _, rfl, .inl (SqL.of hA), _, _, rfl, rfl, _, _, rfl, rfl, RgOk.of_le (by omega) (by rw [List.length_map, htl]; omega) (by omega) (by omega), fun ar nr => ?_⟩
    rw [List.length_map, htl, rgV_eq1]
    have S1 := same_new (o := .lst (nv ((List.range TT.length).map (· + 1)))) nr
    have e1 : upd H ar (.lst (nv ((List.range TT.length).map (· + 1)))) ar = some (.lst (nv ((List.range TT.length).map (· + 1)))) := upd_same
    generalize upd H ar (.lst (nv ((List.range TT.length).map (· + 1)))) = H1 at S1 e1 ⊢
    -- least
    refine ⟨by show 1 ≤ sizeLine; omega, fun l1 nl1 => ?_⟩
    have S2 := same_new (o := .lst [V.non]) nl1
    have e2 : upd H1 l1 (.lst [V.non]) l1 = some (.lst [V.non]) := upd_same
    generalize upd H1 l1 (.lst [V.non]) = H2 at S2 e2 ⊢
    have S02 := S1.trans S2
    refine ⟨_, rfl, _, _, rfl, .inl (SqL.of (S02 _ _ hA)), _, _, rfl, rfl, l1, _, [V.non], rfl, rfl, e2, by omega, by rw [List.length_map, htl]; omega, by rw [List.length_map, htl]; show 1 * _ ≤ sizeLine; omega, fun al nal => ?_⟩
    rw [List.length_map, htl, rep_flat, show ((TT.length : Int) + 1).toNat = TT.length + 1 by omega, rep_ov]
    have S3 := same_new (o := .lst (ov (List.replicate (TT.length + 1) none))) nal
    have e3 : upd H2 al (.lst (ov (List.replicate (TT.length + 1) none))) al = some (.lst (ov (List.replicate (TT.length + 1) none))) := upd_same
    generalize upd H2 al (.lst (ov (List.replicate (TT.length + 1) none))) = H3 at S3 e3 ⊢
    -- ahead
    refine ⟨by show 1 ≤ sizeLine; omega, fun l2 nl2 => ?_⟩
    have S4 := same_new (o := .lst [V.int 0]) nl2
    have e4 : upd H3 l2 (.lst [V.int 0]) l2 = some (.lst [V.int 0]) := upd_same
    generalize upd H3 l2 (.lst [V.int 0]) = H4 at S4 e4 ⊢
    have S04 := S02.trans (S3.trans S4)
    refine ⟨_, rfl, _, _, rfl, .inl (SqL.of (S04 _ _ hA)), _, _, rfl, rfl, l2, _, [V.int 0], rfl, rfl, e4, by omega, by rw [List.length_map, htl]; omega, by rw [List.length_map, htl]; show 1 * _ ≤ sizeLine; omega, fun ah nah => ?_⟩
    rw [List.length_map, htl, rep_flat, show ((TT.length : Int) + 1).toNat = TT.length + 1 by omega, rep_nv]
    have S5 := same_new (o := .lst (nv (List.replicate (TT.length + 1) 0))) nah
    have e5 : upd H4 ah (.lst (nv (List.replicate (TT.length + 1) 0))) ah = some (.lst (nv (List.replicate (TT.length + 1) 0))) := upd_same
    generalize upd H4 ah (.lst (nv (List.replicate (TT.length + 1) 0))) = H5 at S5 e5 ⊢
    have S05 := S04.trans S5
    -- done
    refine ⟨by show 1 ≤ sizeLine; omega, fun ad nad => ?_⟩
    have S6 := same_new (o := .lst [V.int 0]) nad
    have e6 : upd H5 ad (.lst [V.int 0]) ad = some (.lst (nv [0])) := upd_same
    generalize upd H5 ad (.lst [V.int 0]) = H6 at S6 e6 ⊢
    have S06 := S05.trans S6
    have S26 : Same H2 H6 := S3.trans (S4.trans (S5.trans S6))
    have S36 : Same H3 H6 := S4.trans (S5.trans S6)
    have frr := s0.free nr
    have fl := s0.free (S02.free nal)
    have fa := s0.free (S04.free nah)
    have fdd := s0.free (S05.free nad)
    let A : PLoc := ⟨am, at_, ao, ar, al, ah, ad⟩
    have ok : A.Ok H0 := {
      fm := fm, ft := ft, fo := fo, fr := frr, fl := fl, fa := fa, fd := fdd
      mt := mt, mo := mo, mr := ne_of_none hM nr, ml := ne_of_none (S02 _ _ hM) nal, ma := ne_of_none (S04 _ _ hM) nah, md := ne_of_none (S05 _ _ hM) nad
      to := to, tr := ne_of_none hT nr, tl := ne_of_none (S02 _ _ hT) nal, ta := ne_of_none (S04 _ _ hT) nah, td := ne_of_none (S05 _ _ hT) nad
      or_ := ne_of_none hO nr, ol := ne_of_none (S02 _ _ hO) nal, oa := ne_of_none (S04 _ _ hO) nah, od := ne_of_none (S05 _ _ hO) nad
      rl := ne_of_none (S2 _ _ e1) nal, ra := ne_of_none (S4 _ _ (S3 _ _ (S2 _ _ e1))) nah, rd := ne_of_none (S5 _ _ (S4 _ _ (S3 _ _ (S2 _ _ e1)))) nad
      la := ne_of_none (S4 _ _ e3) nah, ld := ne_of_none (S5 _ _ (S4 _ _ e3)) nad
      ad := ne_of_none e5 nad }
    have B0 : PAt TT.length H0 H6 A (grow0 TT.length p) p.owner := ⟨ok, s0.trans S06, S06 _ _ hM, S06 _ _ hT, S06 _ _ hO, S26 _ _ (S2 _ _ e1), S36 _ _ e3, S6 _ _ e5, e6⟩
    clear S1 S2 S3 S4 S5 S6 S02 S04 S05 S06 S26 S36 e1 e2 e3 e4 e5 e6 nr nl1 nal nl2 nah nad frr fl fa fdd
    -- owner[0] = who
    refine ⟨_, rfl, _, rfl, ao, nv p.owner, _, 0, rfl, rfl, B0.o, ixN_lt (j := 0) (by rw [len_nv, O.lo]; omega), ?_⟩
    rw [set_nv]
    have B1 := B0.setO (p.owner.set 0 (k + 1))
    have G0 := O.start hk
    have putEq : putIn TT (k + 1) p = ⟨(grow TT (p.owner.set 0 (k + 1)) (TT.length + 1) (grow0 TT.length p)).mine, (grow TT (p.owner.set 0 (k + 1)) (TT.length + 1) (grow0 TT.length p)).theirs,
      turnOver (grow TT (p.owner.set 0 (k + 1)) (TT.length + 1) (grow0 TT.length p)).ahead (TT.length + 1) (grow TT (p.owner.set 0 (k + 1)) (TT.length + 1) (grow0 TT.length p)).here (p.owner.set 0 (k + 1))⟩ := rfl
    have B1' : PAt TT.length H0 (upd H6 ao (.lst (nv (p.owner.set 0 (k + 1))))) A (grow0 TT.length p) (p.owner.set 0 (k + 1)) := B1
    generalize upd H6 ao (.lst (nv (p.owner.set 0 (k + 1)))) = H7 at B1' ⊢
    generalize p.owner.set 0 (k + 1) = ow at B1' G0 putEq
    clear B0 B1 hM hT hO
    have owLen : ow.length = TT.length + 1 := G0.lo
    -- the first while
    refine ⟨fun m σ H' => ∃ (s : Grow) (pre : List Nat) (v10 v11 v12 v13 : Option V), σ = [some (.ref a), some (.int ((k + 1 : Nat) : Int)), some (.ref am), some (.ref at_), some (.ref ao), some (.ref ar), some (.ref al), some (.ref ah), some (.ref ad), some (.int (s.here : Nat)), v10, v11, v12, v13] ∧
        PAt TT.length H0 H' A s ow ∧ GInv TT k ow s pre ∧ grow TT ow m s = grow TT ow (TT.length + 1) (grow0 TT.length p) ∧ TT.length + 2 ≤ m + s.done.length,
      ⟨TT.length + 1, grow0 TT.length p, [], none, none, none, none, rfl, B1', G0, rfl, by show TT.length + 2 ≤ TT.length + 1 + 1; omega⟩, ?_⟩
    rintro m σ H8 ⟨s, pre, v10, v11, v12, v13, rfl, B, G, eg, em⟩
    have hereLe := G.hereLe
    refine ⟨_, rfl, _, rfl, ao, nv ow, _, _, rfl, rfl, SqL.of B.o, at_nv (i := s.here) (by omega), rfl, _, rfl, ?_⟩
    by_cases h0 : gN ow s.here = 0
    · refine iteNS (by rw [h0]; rfl) ?_
      -- the second while
      rw [grow_stop h0 m] at eg
      rw [← eg] at putEq
      have dl := G.doneLen
      refine ⟨fun m2 σ H' => ∃ (o' : List Nat) (h t : Nat), σ = [some (.ref a), some (.int ((k + 1 : Nat) : Int)), some (.ref am), some (.ref at_), some (.ref ao), some (.ref ar), some (.ref al), some (.ref ah), some (.ref ad), some (.int (h : Nat)), v10, v11, v12, v13] ∧
          PAt TT.length H0 H' A s o' ∧ AInv TT k ow s o' h t ∧ turnOver s.ahead m2 h o' = turnOver s.ahead (TT.length + 1) s.here ow ∧ t < m2,
        ⟨TT.length + 1, ow, s.here, s.done.length - 1, rfl, B, G.turn0 h0, rfl, by omega⟩, ?_⟩
      rintro m2 σ H9 ⟨o', h, t, rfl, B9, A9, et, htm⟩
      obtain ⟨m3, rfl⟩ : ∃ m3, m2 = m3 + 1 := ⟨m2 - 1, by omega⟩
      have hle : h ≤ TT.length := G.dle _ (List.mem_of_getElem? A9.ht)
      refine ⟨_, rfl, rfl, _, rfl, ?_⟩
      by_cases hz : h = 0
      · subst hz
        refine iteNS rfl ?_
        have et2 : turnOver s.ahead (m3 + 1) 0 o' = o' := by
          unfold turnOver
          rw [if_pos rfl]
        rw [et2] at et
        refine q H9 B9.same ?_ ?_ ?_
        · rw [putEq]; exact B9.m
        · rw [putEq]; exact B9.t
        · rw [putEq]
          show H9 ao = some (.lst (nv (turnOver s.ahead (TT.length + 1) s.here ow)))
          rw [← et]
          exact B9.o
      · refine iteNF (fun z => hz (by injection z with z; exact Int.ofNat.inj z)) ?_
        obtain ⟨t', ht', A'⟩ := A9.step G hz
        have ple : gN s.ahead h ≤ TT.length := G.dle _ (List.mem_of_getElem? A'.ht)
        have la := G.la
        have lo := A9.lo
        have et2 : turnOver s.ahead (m3 + 1) h o' = turnOver s.ahead m3 (gN s.ahead h) (o'.set h (gN o' (gN s.ahead h))) := by
          show (if h = 0 then o' else _) = _
          rw [if_neg hz]
        rw [et2] at et
        refine ⟨fun σ H' => ∃ (o' : List Nat) (h t : Nat), σ = [some (.ref a), some (.int ((k + 1 : Nat) : Int)), some (.ref am), some (.ref at_), some (.ref ao), some (.ref ar), some (.ref al), some (.ref ah), some (.ref ad), some (.int (h : Nat)), v10, v11, v12, v13] ∧
          PAt TT.length H0 H' A s o' ∧ AInv TT k ow s o' h t ∧ turnOver s.ahead m3 h o' = turnOver s.ahead (TT.length + 1) s.here ow ∧ t < m3, fun σ' H' hN => ⟨m3, Nat.lt_succ_self _, hN⟩, ?_⟩
        refine ⟨_, rfl, _, rfl, _, rfl, ah, nv s.ahead, _, _, rfl, rfl, SqL.of B9.a, at_nv (i := h) (by omega), ao, nv o', _, _, rfl, rfl, SqL.of B9.o, at_nv (i := gN s.ahead h) (by omega), ?_⟩
        refine ⟨_, rfl, _, rfl, ao, nv o', _, h, rfl, rfl, B9.o, ixN_lt (by rw [len_nv]; omega), ?_⟩
        rw [set_nv]
        have B10 := B9.setO (o'.set h (gN o' (gN s.ahead h)))
        refine ⟨_, rfl, _, rfl, ah, nv s.ahead, _, _, rfl, rfl, SqL.of B10.a, at_nv (i := h) (by omega), ?_⟩
        exact ⟨_, _, t', rfl, B10, A', et, by omega⟩
    · refine iteNF (fun z => h0 (by injection z with z; exact Int.ofNat.inj z)) ?_
      obtain ⟨dlen, _⟩ := G.open_ h0
      obtain ⟨m', rfl⟩ : ∃ m', m = m' + 1 := ⟨m - 1, by omega⟩
      have eg' : grow TT ow (m' + 1) s = grow TT ow m' (growOne TT ow s) := by
        show (if gN ow s.here = 0 then s else _) = _
        rw [if_neg h0]
      rw [eg'] at eg
      refine ⟨fun σ H' => ∃ (s : Grow) (pre : List Nat) (v10 v11 v12 v13 : Option V), σ = [some (.ref a), some (.int ((k + 1 : Nat) : Int)), some (.ref am), some (.ref at_), some (.ref ao), some (.ref ar), some (.ref al), some (.ref ah), some (.ref ad), some (.int (s.here : Nat)), v10, v11, v12, v13] ∧
        PAt TT.length H0 H' A s ow ∧ GInv TT k ow s pre ∧ grow TT ow m' s = grow TT ow (TT.length + 1) (grow0 TT.length p) ∧ TT.length + 2 ≤ m' + s.done.length, fun σ' H' hN => ⟨m', Nat.lt_succ_self _, hN⟩, ?_⟩
      have lm := G.lm
      have lt := G.lt
      have ll := G.ll
      have la := G.la
      have now1 : 1 ≤ gN ow s.here := Nat.pos_of_ne_zero h0
      have now2 : gN ow s.here ≤ k + 1 := G.owLe hereLe
      -- now
      refine ⟨_, rfl, _, rfl, ao, nv ow, _, _, rfl, rfl, SqL.of B.o, at_nv (i := s.here) (by omega), ?_⟩
      -- the search
      refine ⟨_, rfl, ar, rfl, ⟨_, SqL.of B.r⟩, for_list (K := K) (a := ar) (xs := nv ((List.range TT.length).map (· + 1))) (fun i σ H' => ∃ (v11 v12 : Option V), σ = [some (.ref a), some (.int ((k + 1 : Nat) : Int)), some (.ref am), some (.ref at_), some (.ref ao), some (.ref ar), some (.ref al), some (.ref ah), some (.ref ad), some (.int (s.here : Nat)), some (.int ((gN ow s.here : Nat) : Int)), v11, v12, v13] ∧
          PAt TT.length H0 H' A ⟨s.mine, s.theirs, (run (scanOne TT s.mine s.theirs s.done (gN ow s.here) s.here) i (s.lst, s.ahead)).1, (run (scanOne TT s.mine s.theirs s.done (gN ow s.here) s.here) i (s.lst, s.ahead)).2, s.done, s.here⟩ ow)
        ⟨v11, v12, rfl, B⟩ (fun i σ H' _ ⟨_, _, _, B'⟩ => SqL.of B'.r) ?_ ?_⟩
      · rintro i x σ H9 hx ⟨w11, w12, rfl, B9⟩
        have hi : i < TT.length := by have := (List.getElem?_eq_some_iff.mp hx).1; rwa [rooms_len] at this
        obtain rfl := is_of hx (get_rooms hi)
        obtain ⟨g1, g2, _⟩ := scan_upto (T := TT) (m := s.mine) (th := s.theirs) (done := s.done) (now := gN ow s.here) (here := s.here) ll la i (by omega)
        have eR : run (scanOne TT s.mine s.theirs s.done (gN ow s.here) s.here) (i + 1) (s.lst, s.ahead) = scanOne TT s.mine s.theirs s.done (gN ow s.here) s.here i (run (scanOne TT s.mine s.theirs s.done (gN ow s.here) s.here) i (s.lst, s.ahead)) := rfl
        simp only [eR]
        generalize run (scanOne TT s.mine s.theirs s.done (gN ow s.here) s.here) i (s.lst, s.ahead) = r at B9 g1 g2
        have hnow : gN ow s.here - 1 < TT.length := by omega
        have hnow2 : gN ow s.here - 1 < ts.length := by omega
        have hrw := B9.same _ _ (hrow0 _ ts[gN ow s.here - 1] (gR TT (gN ow s.here - 1)) (List.getElem?_eq_getElem hnow2) (get_of_lt hnow))
        have rl : (gR TT (gN ow s.here - 1)).length = TT.length := ht.isSq.row hnow
        -- cost
        refine ⟨_, rfl, _, rfl, _, _, rfl, rfl, a, ts.map V.ref, _, _, rfl, rfl, SqL.of (B9.same _ _ hA0), at_refE (by omega) hnow2, _, rfl, _, _, rfl, rfl, ts[gN ow s.here - 1], iv (gR TT (gN ow s.here - 1)), _, _, rfl, rfl, SqL.of hrw, at_ivE (i := i) (by omega) (by omega), _, rfl,
          _, rfl, _, rfl, am, iv s.mine, _, _, rfl, rfl, SqL.of B9.m, at_iv (i := gN ow s.here) (by omega), _, _, rfl, rfl, _, rfl, _, rfl, at_, iv s.theirs, _, _, rfl, rfl, SqL.of B9.t, at_iv (i := i + 1) (by omega), _, _, rfl, rfl, ?_⟩
        have ec : costOf TT s.mine s.theirs (gN ow s.here) (i + 1) = -(gI (gR TT (gN ow s.here - 1)) i) - gI s.mine (gN ow s.here) - gI s.theirs (i + 1) := rfl
        refine ⟨_, rfl, _, rfl, ad, nv s.done, rfl, .inl (SqL.of B9.d), rfl, flat_nv _, _, rfl, ?_⟩
        by_cases hin : (i + 1) ∈ s.done
        · refine notin_f hin (iteF ?_)
          have e : scanOne TT s.mine s.theirs s.done (gN ow s.here) s.here i r = r := if_neg fun z => z.1 hin
          rw [e]
          exact ⟨_, _, rfl, B9⟩
        refine notin_t hin ?_
        have store : better (gO r.1 (i + 1)) (costOf TT s.mine s.theirs (gN ow s.here) (i + 1)) = true → ∃ (v11 v12 : Option V), [some (V.ref a), some (.int ((k + 1 : Nat) : Int)), some (.ref am), some (.ref at_), some (.ref ao), some (.ref ar), some (.ref al), some (.ref ah), some (.ref ad), some (.int (s.here : Nat)), some (.int ((gN ow s.here : Nat) : Int)), some (.int ((i + 1 : Nat) : Int)), some (.int (costOf TT s.mine s.theirs (gN ow s.here) (i + 1))), v13] = [some (.ref a), some (.int ((k + 1 : Nat) : Int)), some (.ref am), some (.ref at_), some (.ref ao), some (.ref ar), some (.ref al), some (.ref ah), some (.ref ad), some (.int (s.here : Nat)), some (.int ((gN ow s.here : Nat) : Int)), v11, v12, v13] ∧
            PAt TT.length H0 (upd (upd H9 al (.lst ((ov r.1).set (i + 1) (V.int (costOf TT s.mine s.theirs (gN ow s.here) (i + 1)))))) ah (.lst ((nv r.2).set (i + 1) (V.int (s.here : Nat))))) A ⟨s.mine, s.theirs, (scanOne TT s.mine s.theirs s.done (gN ow s.here) s.here i r).1, (scanOne TT s.mine s.theirs s.done (gN ow s.here) s.here i r).2, s.done, s.here⟩ ow := by
          intro hb
          have e : scanOne TT s.mine s.theirs s.done (gN ow s.here) s.here i r = (r.1.set (i + 1) (some (costOf TT s.mine s.theirs (gN ow s.here) (i + 1))), r.2.set (i + 1) s.here) := if_pos ⟨hin, hb⟩
          rw [e, set_ov, set_nv]
          exact ⟨_, _, rfl, (B9.setL _).setA _⟩
        refine ⟨_, rfl, _, rfl, al, ov r.1, _, _, rfl, rfl, SqL.of B9.l, at_ov (i := i + 1) (by omega), _, rfl, ?_⟩
        have hah : upd H9 al (.lst ((ov r.1).set (i + 1) (V.int (costOf TT s.mine s.theirs (gN ow s.here) (i + 1))))) ah = some (.lst (nv r.2)) := by
          rw [upd_ne B9.ok.la.symm]
          exact B9.a
        cases eo : gO r.1 (i + 1) with
        | none =>
          rw [eo] at store
          refine iteDT rfl (iteT ?_)
          refine ⟨_, rfl, _, rfl, _, rfl, al, ov r.1, _, i + 1, rfl, rfl, B9.l, ixN_lt (by rw [len_ov]; omega), ?_⟩
          exact ⟨_, rfl, _, rfl, _, rfl, ah, nv r.2, _, i + 1, rfl, rfl, hah, ixN_lt (by rw [len_nv]; omega), store rfl⟩
        | some z =>
          rw [eo] at store
          refine iteDF (fun z => by cases z) ?_
          have ez : atI (ov r.1) ((i + 1 : Nat) : Int) = some (V.int z) := by
            rw [at_ov (by omega), eo]
            rfl
          refine ⟨_, rfl, _, rfl, _, rfl, al, ov r.1, _, _, rfl, rfl, SqL.of B9.l, ez, _, _, rfl, rfl, _, rfl, ?_⟩
          by_cases hcz : costOf TT s.mine s.theirs (gN ow s.here) (i + 1) < z
          · refine iteDT hcz ?_
            refine ⟨_, rfl, _, rfl, _, rfl, al, ov r.1, _, i + 1, rfl, rfl, B9.l, ixN_lt (by rw [len_ov]; omega), ?_⟩
            exact ⟨_, rfl, _, rfl, _, rfl, ah, nv r.2, _, i + 1, rfl, rfl, hah, ixN_lt (by rw [len_nv]; omega), store (decide_eq_true hcz)⟩
          · refine iteDF hcz ?_
            have e : scanOne TT s.mine s.theirs s.done (gN ow s.here) s.here i r = r := if_neg fun q => by
              have := q.2
              rw [eo] at this
              exact hcz (of_decide_eq_true this)
            rw [e]
            exact ⟨_, _, rfl, B9⟩
      · rintro σ H9 ⟨w11, w12, rfl, B9⟩
        rw [rooms_len] at B9
        have esc : run (scanOne TT s.mine s.theirs s.done (gN ow s.here) s.here) TT.length (s.lst, s.ahead) = scOf TT ow s := rfl
        rw [esc] at B9
        have hscan : ∀ j, 1 ≤ j → j ≤ TT.length → ¬ j ∈ s.done → ∃ x, gO (scOf TT ow s).1 j = some x := fun j h1 h2 h3 => by
          obtain ⟨x, ex, _⟩ := G.scanned h0 h1 h2 h3
          exact ⟨x, ex⟩
        obtain ⟨scl1, scl2⟩ := G.lens (T := TT)
        obtain ⟨nne, nx1, nx2, nx3, _⟩ := G.next h0
        obtain ⟨_, ml1, ml2⟩ := (⟨trivial, (G.lifted h0).1, (G.lifted h0).2.1⟩ : True ∧ (mlOf TT ow s).1.length = TT.length + 1 ∧ (mlOf TT ow s).2.length = TT.length + 1)
        have lowd := G.lowered (T := TT)
        have open1 := (G.open_ h0).2
        -- by
        refine ⟨_, rfl, ar, rfl, ⟨_, SqL.of B9.r⟩, fun L nL => lc_list (K := K) (a := ar) (xs := nv ((List.range TT.length).map (· + 1))) (fun i H' => Same H9 H' ∧ H' L = some (.lst (iv ((((List.range i).map (· + 1)).filter fun r => decide (¬ r ∈ s.done)).map fun r => (gO (scOf TT ow s).1 r).getD 0))))
          ⟨same_new nL, upd_same⟩ (fun i H' _ h => SqL.of (h.1 _ _ B9.r)) ?_ ?_⟩
        · rintro i x H10 hx ⟨s10, hL⟩
          have hi : i < TT.length := by have := (List.getElem?_eq_some_iff.mp hx).1; rwa [rooms_len] at this
          obtain rfl := is_of hx (get_rooms hi)
          have B10 := B9.more s10
          refine ⟨rfl, _, rfl, _, rfl, ad, nv s.done, rfl, .inl (SqL.of B10.d), rfl, flat_nv _, _, rfl, ?_⟩
          by_cases hin : (i + 1) ∈ s.done
          · refine notin_f hin ⟨s10, ?_⟩
            rw [openUpto_succ, if_neg (by simp [hin]), List.append_nil]
            exact hL
          · refine notin_t hin ?_
            obtain ⟨z, ez⟩ := hscan (i + 1) (by omega) (by omega) hin
            have ea : atI (ov (scOf TT ow s).1) ((i + 1 : Nat) : Int) = some (V.int z) := by
              rw [at_ov (by omega), ez]
              rfl
            refine ⟨_, rfl, _, rfl, al, ov (scOf TT ow s).1, _, _, rfl, rfl, SqL.of B10.l, ea, _, hL, ?_, samePut s10 nL, ?_⟩
            · rw [len_iv, List.length_map]
              exact small1000 (Nat.le_trans (openUpto_len _ _) (by omega))
            · rw [upd_same, iv_app, openUpto_succ, if_pos (decide_eq_true hin), List.map_append]
              have e : ([i + 1].map fun r => (gO (scOf TT ow s).1 r).getD 0) = [z] := by
                show [(gO (scOf TT ow s).1 (i + 1)).getD 0] = [z]
                rw [ez]
                rfl
              rw [e]
        · rintro H10 ⟨s10, hL⟩
          rw [rooms_len] at hL
          have B10 := B9.more s10
          have hL' : H10 L = some (.lst (iv ((openRooms TT.length s.done).map fun r => (gO (scOf TT ow s).1 r).getD 0))) := hL
          refine ⟨L, (openRooms TT.length s.done).map fun r => (gO (scOf TT ow s).1 r).getD 0, rfl, SqL.of hL', ?_, fun b hb1 hb2 => ?_⟩
          · rw [List.length_map]
            exact List.length_pos_iff.mpr open1
          have eb : byOf TT ow s = b := minL_unique hb1 hb2
          rw [← eb]
          clear hb1 hb2 eb hL hL'
          -- the lifting
          refine ⟨_, rfl, ad, rfl, ⟨_, SqL.of B10.d⟩, for_list (K := K) (a := ad) (xs := nv s.done) (fun i σ H' => ∃ (v11 v12 : Option V), σ = [some (.ref a), some (.int ((k + 1 : Nat) : Int)), some (.ref am), some (.ref at_), some (.ref ao), some (.ref ar), some (.ref al), some (.ref ah), some (.ref ad), some (.int (s.here : Nat)), some (.int ((gN ow s.here : Nat) : Int)), v11, v12, some (.int (byOf TT ow s))] ∧
              PAt TT.length H0 H' A ⟨(run (liftOne ow s.done (byOf TT ow s)) i (s.mine, s.theirs)).1, (run (liftOne ow s.done (byOf TT ow s)) i (s.mine, s.theirs)).2, (scOf TT ow s).1, (scOf TT ow s).2, s.done, s.here⟩ ow)
            ⟨w11, w12, rfl, B10⟩ (fun i σ H' _ ⟨_, _, _, B'⟩ => SqL.of B'.d) ?_ ?_⟩
          · rintro i x σ H11 hx ⟨u11, u12, rfl, B11⟩
            have hi : i < s.done.length := by have := (List.getElem?_eq_some_iff.mp hx).1; rwa [len_nv] at this
            obtain rfl := is_of hx (get_nv hi)
            obtain ⟨g1, g2, _⟩ := lift_upto (ow := ow) (b := byOf TT ow s) lm lt G.dle (fun d hd => by have := G.owLe (G.dle d hd); omega) G.nd (fun d e hd he z => G.inj d e (G.dle d hd) (G.dle e he) (G.ownD h0 d hd) z) i (by omega)
            have eR : run (liftOne ow s.done (byOf TT ow s)) (i + 1) (s.mine, s.theirs) = liftOne ow s.done (byOf TT ow s) i (run (liftOne ow s.done (byOf TT ow s)) i (s.mine, s.theirs)) := rfl
            simp only [eR]
            generalize run (liftOne ow s.done (byOf TT ow s)) i (s.mine, s.theirs) = r at B11 g1 g2
            have hdm : gN s.done i ∈ s.done := gD_mem hi
            have d1 := G.dle _ hdm
            have d2 := G.owLe d1
            refine ⟨_, rfl, _, rfl, _, rfl, ao, nv ow, _, _, rfl, rfl, SqL.of B11.o, at_nv (i := gN s.done i) (by omega), am, iv r.1, _, _, rfl, rfl, SqL.of B11.m, at_iv (i := gN ow (gN s.done i)) (by omega), _, rfl, _, _, rfl, rfl, ?_⟩
            refine ⟨_, rfl, _, rfl, _, rfl, ao, nv ow, _, _, rfl, rfl, SqL.of B11.o, at_nv (i := gN s.done i) (by omega), am, iv r.1, _, gN ow (gN s.done i), rfl, rfl, B11.m, ixN_lt (by rw [len_iv]; omega), ?_⟩
            rw [set_iv]
            have B12 := B11.setM (r.1.set (gN ow (gN s.done i)) (gI r.1 (gN ow (gN s.done i)) + byOf TT ow s))
            refine ⟨_, rfl, _, rfl, at_, iv r.2, _, _, rfl, rfl, SqL.of B12.t, at_iv (i := gN s.done i) (by omega), _, rfl, _, _, rfl, rfl, ?_⟩
            refine ⟨_, rfl, _, rfl, at_, iv r.2, _, gN s.done i, rfl, rfl, B12.t, ixN_lt (by rw [len_iv]; omega), ?_⟩
            rw [set_iv]
            exact ⟨_, _, rfl, B12.setT (r.2.set (gN s.done i) (gI r.2 (gN s.done i) - byOf TT ow s))⟩
          · rintro σ H11 ⟨u11, u12, rfl, B11⟩
            rw [len_nv] at B11
            have eml : run (liftOne ow s.done (byOf TT ow s)) s.done.length (s.mine, s.theirs) = mlOf TT ow s := rfl
            rw [eml] at B11
            -- the lowering
            refine ⟨_, rfl, ar, rfl, ⟨_, SqL.of B11.r⟩, for_list (K := K) (a := ar) (xs := nv ((List.range TT.length).map (· + 1))) (fun i σ H' => ∃ (v11 v12 : Option V), σ = [some (.ref a), some (.int ((k + 1 : Nat) : Int)), some (.ref am), some (.ref at_), some (.ref ao), some (.ref ar), some (.ref al), some (.ref ah), some (.ref ad), some (.int (s.here : Nat)), some (.int ((gN ow s.here : Nat) : Int)), v11, v12, some (.int (byOf TT ow s))] ∧
                PAt TT.length H0 H' A ⟨(mlOf TT ow s).1, (mlOf TT ow s).2, run (lowerOne s.done (byOf TT ow s)) i (scOf TT ow s).1, (scOf TT ow s).2, s.done, s.here⟩ ow)
              ⟨u11, u12, rfl, B11⟩ (fun i σ H' _ ⟨_, _, _, B'⟩ => SqL.of B'.r) ?_ ?_⟩
            · rintro i x σ H12 hx ⟨t11, t12, rfl, B12⟩
              have hi : i < TT.length := by have := (List.getElem?_eq_some_iff.mp hx).1; rwa [rooms_len] at this
              obtain rfl := is_of hx (get_rooms hi)
              obtain ⟨g1, g2⟩ := lower_upto (done := s.done) (b := byOf TT ow s) scl1 i (by omega)
              have g3 := g2 (i + 1)
              rw [if_neg (by omega)] at g3
              have eR : run (lowerOne s.done (byOf TT ow s)) (i + 1) (scOf TT ow s).1 = lowerOne s.done (byOf TT ow s) i (run (lowerOne s.done (byOf TT ow s)) i (scOf TT ow s).1) := rfl
              simp only [eR]
              generalize run (lowerOne s.done (byOf TT ow s)) i (scOf TT ow s).1 = r at B12 g1 g3
              refine ⟨_, rfl, _, rfl, ad, nv s.done, rfl, .inl (SqL.of B12.d), rfl, flat_nv _, _, rfl, ?_⟩
              by_cases hin : (i + 1) ∈ s.done
              · refine notin_f hin ?_
                have e : lowerOne s.done (byOf TT ow s) i r = r := if_pos hin
                rw [e]
                exact ⟨_, _, rfl, B12⟩
              · refine notin_t hin ?_
                obtain ⟨z, ez⟩ := hscan (i + 1) (by omega) (by omega) hin
                rw [ez] at g3
                have ea : atI (ov r) ((i + 1 : Nat) : Int) = some (V.int z) := by
                  rw [at_ov (by omega), g3]
                  rfl
                have e : lowerOne s.done (byOf TT ow s) i r = r.set (i + 1) (some (z - byOf TT ow s)) := by
                  unfold lowerOne
                  rw [if_neg hin, g3]
                  rfl
                refine ⟨_, rfl, _, rfl, al, ov r, _, _, rfl, rfl, SqL.of B12.l, ea, _, rfl, _, _, rfl, rfl, ?_⟩
                refine ⟨_, rfl, _, rfl, al, ov r, _, i + 1, rfl, rfl, B12.l, ixN_lt (by rw [len_ov]; omega), ?_⟩
                rw [set_ov, e]
                exact ⟨_, _, rfl, B12.setL _⟩
            · rintro σ H12 ⟨t11, t12, rfl, B12⟩
              rw [rooms_len] at B12
              have el2 : run (lowerOne s.done (byOf TT ow s)) TT.length (scOf TT ow s).1 = l2Of TT ow s := rfl
              rw [el2] at B12
              have hl2 : ∀ j, 1 ≤ j → j ≤ TT.length → ¬ j ∈ s.done → ∃ x, gO (l2Of TT ow s) j = some x := fun j h1 h2 h3 => by
                rw [lowd.2, if_pos ⟨h1, h2, h3⟩]
                exact ⟨_, rfl⟩
              have l2l := lowd.1
              -- the next room
              refine ⟨_, rfl, ar, rfl, ⟨_, SqL.of B12.r⟩, fun L2 nL2 => lc_list (K := K) (a := ar) (xs := nv ((List.range TT.length).map (· + 1))) (fun i H' => Same H12 H' ∧ H' L2 = some (.lst (nv (((List.range i).map (· + 1)).filter fun r => decide (¬ r ∈ s.done ∧ gO (l2Of TT ow s) r = some 0)))))
                ⟨same_new nL2, upd_same⟩ (fun i H' _ h => SqL.of (h.1 _ _ B12.r)) ?_ ?_⟩
              · rintro i x H13 hx ⟨s13, hL2⟩
                have hi : i < TT.length := by have := (List.getElem?_eq_some_iff.mp hx).1; rwa [rooms_len] at this
                obtain rfl := is_of hx (get_rooms hi)
                have B13 := B12.more s13
                refine ⟨rfl, _, rfl, _, rfl, ad, nv s.done, rfl, .inl (SqL.of B13.d), rfl, flat_nv _, _, rfl, ?_⟩
                by_cases hin : (i + 1) ∈ s.done
                · refine notin_f hin (iteF ⟨s13, ?_⟩)
                  rw [openUpto_succ, if_neg (by simp [hin]), List.append_nil]
                  exact hL2
                · refine notin_t hin ?_
                  obtain ⟨z, ez⟩ := hl2 (i + 1) (by omega) (by omega) hin
                  have ea : atI (ov (l2Of TT ow s)) ((i + 1 : Nat) : Int) = some (V.int z) := by
                    rw [at_ov (by omega), ez]
                    rfl
                  refine ⟨_, rfl, _, rfl, al, ov (l2Of TT ow s), _, _, rfl, rfl, SqL.of B13.l, ea, rfl, _, rfl, ?_⟩
                  by_cases hz : z = 0
                  · refine iteDT (by rw [hz]) ?_
                    refine ⟨_, rfl, _, hL2, ?_, samePut s13 nL2, ?_⟩
                    · rw [len_nv]
                      exact small1000 (Nat.le_trans (openUpto_len _ _) (by omega))
                    · rw [upd_same, nv_app, openUpto_succ, if_pos (decide_eq_true ⟨hin, by rw [ez, hz]⟩)]
                  · refine iteDF (vint_ne hz) ⟨s13, ?_⟩
                    rw [openUpto_succ, if_neg (by
                      rw [decide_eq_true_iff]
                      rintro ⟨_, h2⟩
                      rw [ez] at h2
                      exact hz (Option.some.inj h2)), List.append_nil]
                    exact hL2
              · rintro H13 ⟨s13, hL2⟩
                rw [rooms_len] at hL2
                have B13 := B12.more s13
                have hL2' : H13 L2 = some (.lst (nv (nextRooms TT.length s.done (l2Of TT ow s)))) := hL2
                refine ⟨L2, nv (nextRooms TT.length s.done (l2Of TT ow s)), _, _, rfl, rfl, SqL.of hL2', at_nv (i := 0) (List.length_pos_iff.mpr nne), ?_⟩
                -- done.append(here)
                refine ⟨_, rfl, .inl ⟨rfl, _, SqL.of B13.d⟩, _, rfl, ad, nv s.done, _, rfl, rfl, B13.d, by rw [len_nv]; exact small1000 (by omega), ?_⟩
                have eN : gN (nextRooms TT.length s.done (l2Of TT ow s)) 0 = nextOf TT ow s := rfl
                rw [nv_app, eN]
                refine ⟨growOne TT ow s, s.done, _, _, _, _, rfl, ?_, G.step h0, eg, ?_⟩
                · rw [growOne_eq]
                  exact B13.setD _ _
                · have : (growOne TT ow s).done.length = s.done.length + 1 := by rw [growOne_eq]; simp
                  omega
end
end RP
namespace RP
open PySem PySem.Spec PyProof.Rows L2
section
variable {P : Program} {w : World} {K : PySem.W.Frag} {mg : Str → Option Value} {base : Heap} {D : Adr}
/-! ### best -/
def spBest : Sp := fun vs H Q _ => ∃ (a : Addr) (T : List (List Int)), vs = [.ref a] ∧ Tab H a T ∧ IsTab T ∧ ∀ H' p, Same H H' → H p = none → H' p = some (.lst (nv (best T))) → Q (.ref p) H'
abbrev nmBest : List Str := ["table", "size", "mine", "theirs", "owner", "who", "found", "room"]
theorem scBest : FnScope nmBest ["table"] (defScope sBest) := ⟨rfl, rfl, rfl, by decide +kernel, rfl, by decide +kernel, by decide +kernel⟩
theorem ok_best (T : Txt K mg D) : Prom P w K mg base 2 D.best ["table"] spBest := by
  obtain ⟨fd, F⟩ := T.best.fn
  have G1 := ok_putIn (P := P) (w := w) (base := base) T
  refine ⟨⟨fd, ?_, F.binds fun _ _ _ _ _ _ us hl => match us, hl with | [_], _ => rfl⟩, F.kp⟩
  refine F.ok scBest (fun vs H Q E h => ?_) (fun cdv A outer s H vs Q E hr h => ?_)
  · obtain ⟨a, TT, rfl, _⟩ := h
    rfl
  · obtain ⟨a, TT, rfl, ha, ht, k⟩ := h
    have nd := scBest.nd
    refine ⟨_, pss_cons (ps_set (i := 1) nd rfl (Or.inl rfl) (pe_callB (lenK K) (by rfl) T.zLen PySem.boot_len (pa_cons (pv 0) pa_nil)))
      (pss_cons (ps_set (i := 2) nd rfl (Or.inl rfl) (pe_op op_rep (pe_lst (pa_cons pe_int pa_nil)) (pe_op op_add (pv 1) pe_int)))
      (pss_cons (ps_set (i := 3) nd rfl (Or.inl rfl) (pe_op op_rep (pe_lst (pa_cons pe_int pa_nil)) (pe_op op_add (pv 1) pe_int)))
      (pss_cons (ps_set (i := 4) nd rfl (Or.inl rfl) (pe_op op_rep (pe_lst (pa_cons pe_int pa_nil)) (pe_op op_add (pv 1) pe_int)))
      (pss_cons (ps_for PassesOwn.never rfl (pi_range2 (by rfl) T.zRange (pa_cons pe_int (pa_cons (pe_op op_add (pv 1) pe_int) pa_nil))) (pg_name (i := 5) nd rfl (Or.inl rfl))
        (pss_one (ps_expr (pe_cl G1 hr T.putIn.gl (pa_cons (pv 0) (pa_cons (pv 5) (pa_cons (pv 2) (pa_cons (pv 3) (pa_cons (pv 4) pa_nil)))))))))
      (pss_cons (ps_set (i := 6) nd rfl (Or.inl rfl) (pe_op op_rep (pe_lst (pa_cons pe_int pa_nil)) (pv 1)))
      (pss_cons (ps_for PassesOwn.never rfl (pi_range2 (by rfl) T.zRange (pa_cons pe_int (pa_cons (pe_op op_add (pv 1) pe_int) pa_nil))) (pg_name (i := 7) nd rfl (Or.inl rfl))
        (pss_one (ps_asg (pe_op op_sub (pv 7) pe_int) (pg_sub (pv 6) (pe_op op_sub (pe_ix (ixK K) (pv 4) (pv 7) (fun _ _ => rfl)) pe_int) set_list))))
      (pss_one (ps_ret (pv 6))))))))), ?_⟩
    have hm := ht.most
    have hp0 := ht.pos
    have big : (64 : Nat) ≤ sizeLine := by decide
    have hTab := ha
    obtain ⟨ts, hA, htl, hrow⟩ := ha
    refine ⟨_, rfl, _, _, rfl, .inl (SqL.of hA), ?_⟩
    rw [List.length_map, htl]
    -- mine
    refine ⟨by show 1 ≤ sizeLine; omega, fun l1 nl1 => ?_⟩
    have S1 := same_new (o := .lst [V.int 0]) nl1
    have e1 : upd H l1 (.lst [V.int 0]) l1 = some (.lst [V.int 0]) := upd_same
    generalize upd H l1 (.lst [V.int 0]) = H1 at S1 e1 ⊢
    refine ⟨_, rfl, _, _, rfl, rfl, l1, _, [V.int 0], rfl, rfl, e1, by omega, by omega, by show 1 * _ ≤ sizeLine; omega, fun am nam => ?_⟩
    rw [rep_flat, show ((TT.length : Int) + 1).toNat = TT.length + 1 by omega, rep_iv]
    have S2 := sameNew (o := .lst (iv (List.replicate (TT.length + 1) 0))) S1 nam
    have e2 : upd H1 am (.lst (iv (List.replicate (TT.length + 1) 0))) am = some (.lst (iv (List.replicate (TT.length + 1) 0))) := upd_same
    have fm : H am = none := S1.free nam
    generalize upd H1 am (.lst (iv (List.replicate (TT.length + 1) 0))) = H2 at S2 e2 ⊢
    -- theirs
    refine ⟨by show 1 ≤ sizeLine; omega, fun l2 nl2 => ?_⟩
    have S23 := same_new (o := .lst [V.int 0]) nl2
    have S3 := S2.trans S23
    have e3 : upd H2 l2 (.lst [V.int 0]) l2 = some (.lst [V.int 0]) := upd_same
    generalize upd H2 l2 (.lst [V.int 0]) = H3 at S3 S23 e3 ⊢
    refine ⟨_, rfl, _, _, rfl, rfl, l2, _, [V.int 0], rfl, rfl, e3, by omega, by omega, by show 1 * _ ≤ sizeLine; omega, fun at_ nat => ?_⟩
    rw [rep_flat, show ((TT.length : Int) + 1).toNat = TT.length + 1 by omega, rep_iv]
    have S34 := same_new (o := .lst (iv (List.replicate (TT.length + 1) 0))) nat
    have S4 := S3.trans S34
    have e4 : upd H3 at_ (.lst (iv (List.replicate (TT.length + 1) 0))) at_ = some (.lst (iv (List.replicate (TT.length + 1) 0))) := upd_same
    have ft : H at_ = none := S3.free nat
    have nmt : am ≠ at_ := ne_of_none (S23 _ _ e2) nat
    generalize upd H3 at_ (.lst (iv (List.replicate (TT.length + 1) 0))) = H4 at S4 S34 e4 ⊢
    -- owner
    refine ⟨by show 1 ≤ sizeLine; omega, fun l3 nl3 => ?_⟩
    have S45 := same_new (o := .lst [V.int 0]) nl3
    have S5 := S4.trans S45
    have e5 : upd H4 l3 (.lst [V.int 0]) l3 = some (.lst [V.int 0]) := upd_same
    generalize upd H4 l3 (.lst [V.int 0]) = H5 at S5 S45 e5 ⊢
    refine ⟨_, rfl, _, _, rfl, rfl, l3, _, [V.int 0], rfl, rfl, e5, by omega, by omega, by show 1 * _ ≤ sizeLine; omega, fun ao nao => ?_⟩
    rw [rep_flat, show ((TT.length : Int) + 1).toNat = TT.length + 1 by omega, rep_nv]
    have S56 := same_new (o := .lst (nv (List.replicate (TT.length + 1) 0))) nao
    have S6 := S5.trans S56
    have e6 : upd H5 ao (.lst (nv (List.replicate (TT.length + 1) 0))) ao = some (.lst (nv (List.replicate (TT.length + 1) 0))) := upd_same
    have fo : H ao = none := S5.free nao
    have nmo : am ≠ ao := ne_of_none (S45 _ _ (S34 _ _ (S23 _ _ e2))) nao
    have nto : at_ ≠ ao := ne_of_none (S45 _ _ e4) nao
    generalize upd H5 ao (.lst (nv (List.replicate (TT.length + 1) 0))) = H6 at S6 S56 e6 ⊢
    have m6 := S56 _ _ (S45 _ _ (S34 _ _ (S23 _ _ e2)))
    have t6 := S56 _ _ (S45 _ _ e4)
    clear S1 S2 S3 S4 S5 S23 S34 S45 S56 e1 e2 e3 e4 e5 nl1 nam nl2 nat nl3 nao
    -- all people
    refine ⟨_, rfl, _, _, rfl, rfl, _, _, rfl, ⟨by omega, by omega, by omega, by omega⟩, ?_⟩
    rw [show ((TT.length : Int) + 1 - 1).toNat = TT.length by omega]
    refine for_range (lo := 1) (n := TT.length) (fun i σ H' => ∃ (v5 : Option V), σ = [some (.ref a), some (.int (TT.length : Nat)), some (.ref am), some (.ref at_), some (.ref ao), v5, none, none] ∧ Same H H' ∧
        H' am = some (.lst (iv (run (fun i p => putIn TT (i + 1) p) i (put0 TT.length)).mine)) ∧ H' at_ = some (.lst (iv (run (fun i p => putIn TT (i + 1) p) i (put0 TT.length)).theirs)) ∧ H' ao = some (.lst (nv (run (fun i p => putIn TT (i + 1) p) i (put0 TT.length)).owner)))
      ⟨none, rfl, S6, m6, t6, e6⟩ ?_ ?_
    · rintro i σ H7 hi ⟨v5, rfl, s7, m7, t7, o7⟩
      have O := putAll_upto TT i (by omega)
      rw [show (1 : Int) + (i : Int) = ((i + 1 : Nat) : Int) by omega]
      refine ⟨_, rfl, _, rfl, _, rfl, _, rfl, _, rfl, H, a, am, at_, ao, TT, i, _, rfl, s7, hTab, ht, O, by omega, fm, ft, fo, nmt, nmo, nto, m7, t7, o7, fun H8 s8 m8 t8 o8 => ?_⟩
      exact ⟨_, rfl, s8, m8, t8, o8⟩
    · rintro σ H7 ⟨v5, rfl, s7, m7, t7, o7⟩
      have eP : run (fun i p => putIn TT (i + 1) p) TT.length (put0 TT.length) = putAll TT := rfl
      rw [eP] at o7
      have O := putAll_ok TT
      -- found
      refine ⟨by show 1 ≤ sizeLine; omega, fun l4 nl4 => ?_⟩
      have S8 := same_new (o := .lst [V.int 0]) nl4
      have e8 : upd H7 l4 (.lst [V.int 0]) l4 = some (.lst [V.int 0]) := upd_same
      generalize upd H7 l4 (.lst [V.int 0]) = H8 at S8 e8 ⊢
      refine ⟨_, rfl, l4, _, [V.int 0], rfl, rfl, e8, by omega, by omega, by show 1 * _ ≤ sizeLine; omega, fun p np => ?_⟩
      rw [rep_flat, Int.toNat_natCast, rep_nv]
      have s08 := s7.trans S8
      have fp : H p = none := s08.free np
      have s9 := sameNew (o := .lst (nv (List.replicate TT.length 0))) s08 np
      have S9 := same_new (o := .lst (nv (List.replicate TT.length 0))) np
      have npo : ao ≠ p := ne_of_none (S8 _ _ o7) np
      refine ⟨_, rfl, _, _, rfl, rfl, _, _, rfl, ⟨by omega, by omega, by omega, by omega⟩, ?_⟩
      rw [show ((TT.length : Int) + 1 - 1).toNat = TT.length by omega]
      refine for_range (lo := 1) (n := TT.length) (fun i σ H' => ∃ (v7 : Option V), σ = [some (.ref a), some (.int (TT.length : Nat)), some (.ref am), some (.ref at_), some (.ref ao), v5, some (.ref p), v7] ∧ Same H H' ∧
          H' ao = some (.lst (nv (putAll TT).owner)) ∧ H' p = some (.lst (nv (run (foundOne (putAll TT).owner) i (List.replicate TT.length 0)))))
        ⟨none, rfl, s9, S9 _ _ (S8 _ _ o7), upd_same⟩ ?_ ?_
      · rintro i σ H10 hi ⟨v7, rfl, s10, o10, p10⟩
        have pk := own_pos TT (j := i + 1) (by omega) (by omega)
        have fl := (found_upto TT i (by omega)).1
        have lo := O.lo
        have eR : run (foundOne (putAll TT).owner) (i + 1) (List.replicate TT.length 0) = foundOne (putAll TT).owner i (run (foundOne (putAll TT).owner) i (List.replicate TT.length 0)) := rfl
        simp only [eR]
        generalize run (foundOne (putAll TT).owner) i (List.replicate TT.length 0) = r at p10 fl
        rw [show (1 : Int) + (i : Int) = ((i + 1 : Nat) : Int) by omega]
        refine ⟨_, rfl, _, _, rfl, rfl, _, rfl, _, rfl, _, rfl, ao, nv (putAll TT).owner, _, _, rfl, rfl, SqL.of o10, at_nv (i := i + 1) (by omega), _, _, rfl, rfl, p, nv r, _, gN (putAll TT).owner (i + 1) - 1, rfl, rfl, p10, ?_, ?_⟩
        · have e : ((gN (putAll TT).owner (i + 1) : Nat) : Int) - 1 = ((gN (putAll TT).owner (i + 1) - 1 : Nat) : Int) := by omega
          rw [e]
          exact ixN_lt (by rw [len_nv]; omega)
        · have e : ((i + 1 : Nat) : Int) - 1 = ((i : Nat) : Int) := by omega
          refine ⟨_, rfl, samePut s10 fp, by rw [upd_ne npo]; exact o10, ?_⟩
          rw [upd_same]
          show some (HO.lst ((nv r).set _ (V.int (((i + 1 : Nat) : Int) - 1)))) = _
          rw [e, set_nv]
          rfl
      · rintro σ H10 ⟨v7, rfl, s10, o10, p10⟩
        exact ⟨_, rfl, k _ p s10 fp p10⟩
/-! ### settled -/
def spSettled (C : Addr) : Sp := fun vs H Q _ => ∃ (a : Addr) (T : List (List Int)) (rent : Int), vs = [.ref a, .int rent] ∧ Tab H a T ∧ IsTab T ∧ ∀ H' p, Same H H' → SeAt C H' p (best T) (pricesOf T rent (best T)) → Q (.ref p) H'
theorem scSettled : FnScope ["table", "rent", "rooms"] ["table", "rent"] (defScope sSettled) := ⟨rfl, rfl, rfl, by decide +kernel, rfl, by decide +kernel, by decide +kernel⟩
theorem ok_settled (T : Txt K mg D) : Prom P w K mg base 5 D.settled ["table", "rent"] (spSettled D.cSe) := by
  obtain ⟨fd, F⟩ := T.settled.fn
  have G1 := (ok_askT (P := P) (w := w) (base := base) T).mono (j := 4) (by decide)
  have G2 := (ok_askR (P := P) (w := w) (base := base) T).mono (j := 4) (by decide)
  have G3 := (ok_best (P := P) (w := w) (base := base) T).mono (j := 4) (by decide)
  have G4 := ok_toldOf (P := P) (w := w) (base := base) T
  have G5 := ok_seInit (P := P) (w := w) (base := base) T
  refine ⟨⟨fd, ?_, F.binds fun _ _ _ _ _ _ us hl => match us, hl with | [_, _], _ => rfl⟩, F.kp⟩
  refine F.ok scSettled (fun vs H Q E h => ?_) (fun cdv A outer s H vs Q E hr h => ?_)
  · obtain ⟨a, TT, rent, rfl, _⟩ := h
    rfl
  · obtain ⟨a, TT, rent, rfl, ha, ht, k⟩ := h
    have nd := scSettled.nd
    have hr2 : Room 2 _ := hr.mono (by decide)
    refine ⟨_, pss_cons (ps_expr (pe_cl G1 hr T.askT.gl (pa_cons (pv 0) pa_nil))) (pss_cons (ps_expr (pe_cl G2 hr T.askR.gl (pa_cons (pv 1) pa_nil)))
      (pss_cons (ps_set (i := 2) nd rfl (Or.inl rfl) (pe_cl G3 hr T.best.gl (pa_cons (pv 0) pa_nil)))
      (pss_one (ps_ret (pe_mk T.cSe.mkr G5 hr2 T.cSe.gl (pa_cons (pv 2) (pa_cons (pe_fld (pe_cl G4 hr T.toldOf.gl (pa_cons (pv 0) (pa_cons (pv 1) (pa_cons (pv 2) pa_nil)))) rfl) pa_nil))))))), ?_⟩
    refine ⟨_, rfl, a, TT, rfl, ha, ht, fun H1 s1 => ?_⟩
    refine ⟨_, rfl, rent, rfl, ?_⟩
    refine ⟨_, rfl, a, TT, rfl, ha.same s1, ht, fun H2 p s2 np hp => ?_⟩
    have s12 := s1.trans s2
    refine ⟨_, rfl, _, rfl, _, rfl, _, rfl, a, p, TT, rent, best TT, rfl, ha.same s12, ht, hp, best_giving TT, fun H3 o s3 ho => ?_⟩
    rw [told_best] at ho
    obtain ⟨dx, l, ho1, hl⟩ := ho
    refine ⟨o, D.cPr, dx, _, _, rfl, ho1, T.cPr.cl, T.prPrices, fPr_at l, ?_⟩
    intro x dx2 nx ndx nex
    have hp3 := s3 _ _ hp
    have keep : ∀ b u, H3 b = some u → upd (upd H3 dx2 (.own x)) x (.ins D.cSe dx2 []) b = some u := fun b u e => by
      rw [upd_ne (ne_of_none e nx), upd_ne (ne_of_none e ndx)]
      exact e
    refine ⟨x, p, l, dx2, best TT, pricesOf TT rent (best TT), rfl, upd_same, keep _ _ hp3, keep _ _ hl, fun H4 kp hs => ⟨rfl, ?_⟩⟩
    exact k H4 x (s12.trans (s3.trans (Kept.same nx ndx kp))) hs
/-! ### most -/
def spMost : Sp := fun vs H Q _ => ∃ (a : Addr) (T : List (List Int)), vs = [.ref a] ∧ Tab H a T ∧ IsTab T ∧ ∀ H', Same H H' → Q (.int (most T)) H'
abbrev nmMost : List Str := ["table", "row", "room"]
theorem scMost : FnScope nmMost ["table"] (defScope sMost) := ⟨rfl, rfl, rfl, by decide +kernel, rfl, by decide +kernel, by decide +kernel⟩
theorem ok_most (T : Txt K mg D) : Prom P w K mg base 4 D.most ["table"] spMost := by
  obtain ⟨fd, F⟩ := T.most.fn
  have G1 := ok_askT (P := P) (w := w) (base := base) T
  have G3 := (ok_best (P := P) (w := w) (base := base) T).mono (j := 3) (by decide)
  refine ⟨⟨fd, ?_, F.binds fun _ _ _ _ _ _ us hl => match us, hl with | [_], _ => rfl⟩, F.kp⟩
  refine F.ok scMost (fun vs H Q E h => ?_) (fun cdv A outer s H vs Q E hr h => ?_)
  · obtain ⟨a, TT, rfl, _⟩ := h
    rfl
  · obtain ⟨a, TT, rfl, ha, ht, k⟩ := h
    refine ⟨_, pss_cons (ps_expr (pe_cl G1 hr T.askT.gl (pa_cons (pv 0) pa_nil)))
      (pss_one (ps_ret (pe_callB (cr_sum rfl) (by rfl) T.zSum (by decide +kernel) (pa_cons (pe_lc (own := [("row", 1), ("room", 2)]) (g := gTup K 2 (gCons (gName 1) (gCons (gName 2) gNil))) (tt := tYes) rfl scMost.nd
        (pi_zip (by rfl) T.zZip (pa_cons (pv 0) (pa_cons (pe_cl G3 hr T.best.gl (pa_cons (pv 0) pa_nil)) pa_nil))) (blkOk_by (N := nmMost) (sc := defScope sMost) (by decide +kernel))
        (fun _ _ _ _ _ => tupK K rfl (pgs_cons (pg_name (i := 1) scMost.nd rfl (Or.inl rfl)) (pgs_cons (pg_name (i := 2) scMost.nd rfl (Or.inl rfl)) pgs_nil))) (fun _ _ _ _ _ => pts_nil)
        (fun _ _ _ _ _ => pe_ix (ixK K) (pv 1) (pv 2) (fun _ _ => rfl))) pa_nil)))), ?_⟩
    refine ⟨_, rfl, a, TT, rfl, ha, ht, fun H1 s1 => ?_⟩
    refine ⟨_, rfl, _, rfl, a, TT, rfl, ha.same s1, ht, fun H2 b s2 nb hB => ?_⟩
    have s12 := s1.trans s2
    have hg := best_giving TT
    obtain ⟨rs, hA, hrl, hrow⟩ := ha.same s12
    have hm := ht.most
    have lenW : (worths TT (best TT)).length = TT.length := worths_len hg.len
    have eM : most TT = (worths TT (best TT)).sum := rfl
    rw [eM] at k
    generalize best TT = g at hg hB lenW k
    refine ⟨a, b, rs.map V.ref, nv g, rfl, SqL.of hA, SqL.of hB, fun L new => lc_it (walk_zip (K := K) (a := a) (b := b) (xs := rs.map V.ref) (ys := nv g) (n := TT.length) (by rw [len_nv, List.length_map, hg.len]; omega))
        (fun j H3 => Same H2 H3 ∧ H3 L = some (.lst ((iv (worths TT g)).take j))) ⟨same_new new, upd_same⟩ (fun j H3 _ h => ⟨SqL.of (h.1 _ _ hA), SqL.of (h.1 _ _ hB)⟩) ?_ ?_⟩
    · rintro j y H3 H4 hj ⟨s3, hL⟩ ⟨T2, y1, y2, rfl, nT2, rfl, g1, g2⟩
      have hj2 : j < rs.length := by omega
      obtain rfl := is_of g1 (get_ref hj2)
      obtain rfl := is_of g2 (get_nv (by rw [hg.len]; exact hj))
      have hr1 := hrow j rs[j] (gR TT j) (List.getElem?_eq_getElem hj2) (get_of_lt hj)
      have rl : (gR TT j).length = TT.length := ht.isSq.row hj
      have s4 := sameNew (o := .tup [V.ref rs[j], V.int ((gN g j : Nat) : Int)]) s3 nT2
      refine ⟨T2, _, rfl, SqT.of upd_same, rfl, _, _, rfl, _, _, rfl, rfl, rfl, ?_⟩
      refine ⟨_, rfl, _, rfl, rs[j], iv (gR TT j), _, V.int (gI (gR TT j) (gN g j)), rfl, rfl, SqL.of (s4 _ _ hr1), at_iv (by rw [rl]; exact hg.lt j hj), (iv (worths TT g)).take j, ?_, take_lt (by omega), ?_⟩
      · rw [upd_ne (ne_of_none hL nT2)]
        exact hL
      · refine ⟨samePut s4 new, ?_⟩
        rw [upd_same, take_iv (by omega), worths_at hj (by rw [hg.len]; exact hj)]
    · rintro H3 ⟨s3, hL⟩
      rw [List.take_of_length_le (by rw [len_iv]; omega)] at hL
      exact ⟨L, worths TT g, rfl, SqL.of hL, k _ (s12.trans s3)⟩
end
end RP
namespace RP
open PySem PySem.Spec PyProof.Rows L2
theorem pe_no {X : Cx} {e : PySem.Expr} : PE X e (fun _ _ _ => False) := ⟨fun _ _ _ _ _ _ h => h.elim⟩
theorem pi_alt {X : Cx} {tg e : PySem.Expr} {u v : TI} (hu : PI X tg e u) (hv : PI X tg e v) : PI X tg e (fun σ H R => u σ H R ∨ v σ H R) :=
  ⟨fun pins s σ H R I h => h.elim (hu.run pins s σ H R I) (hv.run pins s σ H R I)⟩
section
variable {P : Program} {w : World} {K : PySem.W.Frag} {mg : Str → Option Value} {base : Heap} {D : Adr}
/-! ### _law_number -/
def spNumber : Sp := fun vs H Q _ => ∃ (c : Int) (a r : Nat), vs = [.int c, .int (a : Nat), .int (r : Nat)] ∧ 0 ≤ c ∧ a ≤ 100 ∧ r ≤ 100 ∧ ∀ z : Int, Q (.int z) H
abbrev nmNumber : List Str := ["_law_cell", "_law_at", "_law_whole", "_law_blend", "_law_more"]
theorem scNumber : FnScope nmNumber ["_law_cell", "_law_at", "_law_whole"] (defScope sNumber) := ⟨rfl, rfl, rfl, by decide +kernel, rfl, by decide +kernel, by decide +kernel⟩
theorem ten18 : (10 : Int) ^ (18 : Int).toNat = 1000000000000000000 := by decide
theorem sq_lt {b : Int} (h0 : 0 ≤ b) (h1 : b < 2147483647) : 0 ≤ b * b ∧ b * b ≤ 2147483647 * 2147483647 := by
  refine ⟨Int.mul_nonneg h0 h0, ?_⟩
  have e1 : b * b ≤ 2147483647 * b := Int.mul_le_mul_of_nonneg_right (by omega) h0
  omega
theorem ok_number (T : Txt K mg D) : Prom P w K mg base 1 D.number ["_law_cell", "_law_at", "_law_whole"] spNumber := by
  obtain ⟨fd, F⟩ := T.number.fn
  refine ⟨⟨fd, ?_, F.binds fun _ _ _ _ _ _ us hl => match us, hl with | [_, _, _], _ => rfl⟩, F.kp⟩
  refine F.ok scNumber (fun vs H Q E h => ?_) (fun cdv A outer s H vs Q E hr h => ?_)
  · obtain ⟨c, a, r, rfl, _⟩ := h
    rfl
  · obtain ⟨c, a, r, rfl, hc, ha, hr2, k⟩ := h
    have nd := scNumber.nd
    refine ⟨_, pss_cons (ps_if (pt_cmpR op_ge (pv 0) (pe_op op_pow pe_int pe_int) (nomark _)) (pss_one (ps_ret (pe_op op_fdiv (pv 0) (pe_op op_add pe_int (pe_op op_mod (pv 1) pe_int))))) pss_nil)
      (pss_cons (ps_set (i := 3) nd rfl (Or.inl rfl) (pe_op op_mod (pe_op op_add (pe_op op_mul (pe_op op_add (pv 0) (pe_op op_mul pe_int (pv 1))) pe_int) (pv 2)) pe_int))
      (pss_cons (ps_set (i := 4) nd rfl (Or.inl rfl) (pe_op op_mul (pv 3) (pe_op op_add (pe_op op_add (pv 0) (pe_op op_mul pe_int (pv 1))) pe_int)))
      (pss_one (ps_ret (pe_op op_fdiv (pe_op op_mul (pe_op op_mul (pv 4) (pe_op op_add (pe_op op_add (pv 3) (pv 0)) pe_int)) (pe_op op_add (pe_op op_mul (pv 3) (pv 3)) pe_int)) (pe_op op_add pe_int (pv 1))))))), ?_⟩
    refine ⟨_, rfl, _, _, rfl, rfl, ⟨by decide, by decide, by decide⟩, _, _, rfl, rfl, _, rfl, ?_⟩
    refine ite2 (fun _ => ?_) (fun h => ?_)
    · refine ⟨_, rfl, _, rfl, _, _, rfl, rfl, (by show (0 : Int) < 7; decide), _, _, rfl, rfl, _, _, rfl, rfl, ⟨?_, ?_⟩, k _⟩
      · show (0 : Int) < 1 + (a : Int) % 7
        omega
      · show 1 + (a : Int) % 7 < 1073741824
        omega
    · have hlt : c < 1000000000000000000 := by
        have h := fun z => h (decide_eq_true z)
        have h2 : ¬ (10 : Int) ^ (18 : Int).toNat ≤ c := h
        rw [ten18] at h2
        omega
      refine ⟨_, rfl, _, rfl, _, _, rfl, rfl, .inl ⟨by decide, by decide⟩, _, _, rfl, rfl, _, _, rfl, rfl, .inr ⟨by decide, by decide⟩, _, rfl, _, _, rfl, rfl, _, _, rfl, rfl, (by show (0 : Int) < 2147483647; decide), ?_⟩
      have b0 : 0 ≤ ((c + 977 * (a : Int)) * 48271 + (r : Int)) % 2147483647 := Int.emod_nonneg _ (by decide)
      have b1 : ((c + 977 * (a : Int)) * 48271 + (r : Int)) % 2147483647 < 2147483647 := Int.emod_lt_of_pos _ (by decide)
      show tSeq _ _ _ (List.set _ 3 (some (V.int (((c + 977 * (a : Int)) * 48271 + (r : Int)) % 2147483647)))) _
      generalize ((c + 977 * (a : Int)) * 48271 + (r : Int)) % 2147483647 = b at b0 b1
      have b2 := sq_lt b0 b1
      refine ⟨_, rfl, _, rfl, _, rfl, _, _, rfl, rfl, .inl ⟨by decide, by decide⟩, _, _, rfl, rfl, _, _, rfl, rfl, _, _, rfl, rfl, .inl ⟨by omega, by omega⟩, ?_⟩
      refine ⟨_, rfl, _, rfl, _, rfl, _, _, rfl, rfl, _, _, rfl, rfl, _, _, rfl, rfl, .inr ⟨by omega, by omega⟩, _, rfl, _, rfl, _, _, rfl, rfl, .inl ⟨by omega, by omega⟩, _, _, rfl, rfl, _, _, rfl, rfl, .inr ⟨?_, ?_⟩, _, rfl, _, _, rfl, rfl, _, _, rfl, rfl, ⟨?_, ?_⟩, k _⟩
      · show -(2 ^ 64) < b * b + 11
        omega
      · show b * b + 11 < 2 ^ 64
        omega
      · show (0 : Int) < 1009 + (a : Int)
        omega
      · show 1009 + (a : Int) < 1073741824
        omega
/-! ### _law_plain -/
/-- a number, or a list or tuple of such, d deep -/
def PlainV : Nat → Hp → V → Prop
  | 0, _, v => ∃ i : Int, v = .int i
  | d + 1, H, v => (∃ i : Int, v = .int i) ∨ ∃ (a : Addr) (xs : List V), v = .ref a ∧ (H a = some (.lst xs) ∨ H a = some (.tup xs)) ∧ xs.length ≤ 1000 ∧ ∀ x ∈ xs, PlainV d H x
theorem PlainV.same {H H' : Hp} (s : Same H H') : ∀ {d : Nat} {v : V}, PlainV d H v → PlainV d H' v
  | 0, _, h => h
  | d + 1, v, h => by
    rcases h with h | ⟨a, xs, e, h1, h2, h3⟩
    · exact .inl h
    · exact .inr ⟨a, xs, e, h1.elim (fun z => .inl (s _ _ z)) (fun z => .inr (s _ _ z)), h2, fun x hx => PlainV.same s (h3 x hx)⟩
def spPlain (d : Nat) : Sp := fun vs H Q _ => ∃ v : V, vs = [v] ∧ PlainV d H v ∧ ∀ H', Same H H' → Q (.bl true) H'
abbrev nmPlain : List Str := ["_law_thing", "_law_one"]
theorem scPlain : FnScope nmPlain ["_law_thing"] (defScope sPlain) := ⟨rfl, rfl, rfl, by decide +kernel, rfl, by decide +kernel, by decide +kernel⟩
theorem ok_plain (T : Txt K mg D) : ∀ d : Nat, Prom P w K mg base (d + 1) D.plain ["_law_thing"] (spPlain d)
  | 0 => by
    obtain ⟨fd, F⟩ := T.plain.fn
    refine ⟨⟨fd, ?_, F.binds fun _ _ _ _ _ _ us hl => match us, hl with | [_], _ => rfl⟩, F.kp⟩
    refine F.ok scPlain (fun vs H Q E h => ?_) (fun cdv A outer s H vs Q E hr h => ?_)
    · obtain ⟨v, rfl, _⟩ := h
      rfl
    · obtain ⟨v, rfl, ⟨i, rfl⟩, k⟩ := h
      refine ⟨_, pss_cons (ps_if (PW.pt (pw_or (pt_val (pe_callB (isiK K) (by rfl) T.zIsi (by decide +kernel) (pa_cons (pv 0) (pa_cons (pe_bltn (v := .ty "list") (by rfl) T.zList (by decide +kernel) rfl) pa_nil))))
          (pw_or1 (pt_val (pe_callB (isiK K) (by rfl) T.zIsi (by decide +kernel) (pa_cons (pv 0) (pa_cons (pe_bltn (v := .ty "tuple") (by rfl) T.zTuple (by decide +kernel) rfl) pa_nil))))))) (pss_one ps_never) pss_nil)
        (pss_one (ps_ret (pe_or (pe_cmp (pc_isN (pv 0))) (pe_or (pe_callB (isiK K) (by rfl) T.zIsi (by decide +kernel) (pa_cons (pv 0) (pa_cons (pe_bltn (v := .ty "str") (by rfl) T.zStr (by decide +kernel) rfl) pa_nil)))
          (pe_one (pe_and (pe_callB (isiK K) (by rfl) T.zIsi (by decide +kernel) (pa_cons (pv 0) (pa_cons (pe_bltn (v := .ty "int") (by rfl) T.zInt (by decide +kernel) rfl) pa_nil)))
            (pe_one (pe_not (pe_callB (isiK K) (by rfl) T.zIsi (by decide +kernel) (pa_cons (pv 0) (pa_cons (pe_bltn (v := .ty "bool") (by rfl) T.zBool (by decide +kernel) rfl) pa_nil))))))))))), ?_⟩
      refine ⟨_, rfl, _, _, _, _, false, rfl, .ty _, .base (.int _), kit_ty (by decide +kernel), false, rfl, iteF ?_⟩
      refine ⟨_, rfl, _, _, _, _, false, rfl, .ty _, .base (.int _), kit_ty (by decide +kernel), false, rfl, iteF ?_⟩
      refine ⟨_, rfl, false, rfl, iteF ?_⟩
      refine ⟨_, rfl, _, _, _, _, false, rfl, .ty _, .base (.int _), kit_ty (by decide +kernel), false, rfl, iteF ?_⟩
      refine ⟨_, rfl, _, _, _, _, true, rfl, .ty _, .base (.int _), kit_ty (by decide +kernel), true, rfl, iteT ?_⟩
      exact ⟨_, rfl, _, _, _, _, false, rfl, .ty _, .base (.int _), kit_ty (by decide +kernel), false, rfl, k H (Same.refl H)⟩
  | d + 1 => by
    obtain ⟨fd, F⟩ := T.plain.fn
    have G := ok_plain T d
    refine ⟨⟨fd, ?_, F.binds fun _ _ _ _ _ _ us hl => match us, hl with | [_], _ => rfl⟩, F.kp⟩
    refine F.ok scPlain (fun vs H Q E h => ?_) (fun cdv A outer s H vs Q E hr h => ?_)
    · obtain ⟨v, rfl, _⟩ := h
      rfl
    · obtain ⟨v, rfl, hv, k⟩ := h
      have nd := scPlain.nd
      refine ⟨_, pss_cons (ps_if (PW.pt (pw_or (pt_val (pe_callB (isiK K) (by rfl) T.zIsi (by decide +kernel) (pa_cons (pv 0) (pa_cons (pe_bltn (v := .ty "list") (by rfl) T.zList (by decide +kernel) rfl) pa_nil))))
          (pw_or1 (pt_val (pe_callB (isiK K) (by rfl) T.zIsi (by decide +kernel) (pa_cons (pv 0) (pa_cons (pe_bltn (v := .ty "tuple") (by rfl) T.zTuple (by decide +kernel) rfl) pa_nil)))))))
          (pss_one (ps_ret (pe_callB (cr_all rfl) (by rfl) T.zAll (by decide +kernel) (pa_cons (pe_lc (own := [("_law_one", 1)]) (g := gName 1) (tt := tYes) rfl nd (pi_alt (pi_list (pv 0)) (pi_tup (pv 0))) (blkOk_by (N := nmPlain) (sc := defScope sPlain) (by decide +kernel))
            (fun _ _ _ _ _ => pg_name (i := 1) nd rfl (Or.inl rfl)) (fun _ _ _ _ _ => pts_nil) (fun _ _ _ _ _ => pe_cl G hr T.plain.gl (pa_cons (pv 1) pa_nil))) pa_nil)))) pss_nil)
        (pss_one (ps_ret (pe_or (pe_cmp (pc_isN (pv 0))) (pe_or (pe_callB (isiK K) (by rfl) T.zIsi (by decide +kernel) (pa_cons (pv 0) (pa_cons (pe_bltn (v := .ty "str") (by rfl) T.zStr (by decide +kernel) rfl) pa_nil)))
          (pe_one (pe_and (pe_callB (isiK K) (by rfl) T.zIsi (by decide +kernel) (pa_cons (pv 0) (pa_cons (pe_bltn (v := .ty "int") (by rfl) T.zInt (by decide +kernel) rfl) pa_nil)))
            (pe_one (pe_not (pe_callB (isiK K) (by rfl) T.zIsi (by decide +kernel) (pa_cons (pv 0) (pa_cons (pe_bltn (v := .ty "bool") (by rfl) T.zBool (by decide +kernel) rfl) pa_nil))))))))))), ?_⟩
      rcases hv with ⟨i, rfl⟩ | ⟨a, xs, rfl, hA, hl, hx⟩
      · refine ⟨_, rfl, _, _, _, _, false, rfl, .ty _, .base (.int _), kit_ty (by decide +kernel), false, rfl, iteF ?_⟩
        refine ⟨_, rfl, _, _, _, _, false, rfl, .ty _, .base (.int _), kit_ty (by decide +kernel), false, rfl, iteF ?_⟩
        refine ⟨_, rfl, false, rfl, iteF ?_⟩
        refine ⟨_, rfl, _, _, _, _, false, rfl, .ty _, .base (.int _), kit_ty (by decide +kernel), false, rfl, iteF ?_⟩
        refine ⟨_, rfl, _, _, _, _, true, rfl, .ty _, .base (.int _), kit_ty (by decide +kernel), true, rfl, iteT ?_⟩
        exact ⟨_, rfl, _, _, _, _, false, rfl, .ty _, .base (.int _), kit_ty (by decide +kernel), false, rfl, k H (Same.refl H)⟩
      · rcases hA with hA | hA
        · refine ⟨_, rfl, _, _, _, _, true, rfl, .ty _, .base (.lst hA), kit_ty (by decide +kernel), true, rfl, iteT (iteT ?_)⟩
          refine .inl ⟨_, rfl, a, rfl, ⟨_, SqL.of hA⟩, fun L new => lc_list (K := K) (a := a) (xs := xs) (fun i H' => Same H H' ∧ H' L = some (.lst (List.replicate i (V.bl true)))) ⟨same_new new, upd_same⟩ (fun i H' _ h => SqL.of (h.1 _ _ hA)) ?_ ?_⟩
          · rintro i x H' hxi ⟨s1, hL⟩
            have hi := (List.getElem?_eq_some_iff.mp hxi).1
            refine ⟨rfl, _, rfl, x, rfl, PlainV.same s1 (hx x (List.mem_of_getElem? hxi)), fun H2 s2 => ⟨List.replicate i (V.bl true), s2 _ _ hL, ?_, samePut (s1.trans s2) new, by rw [upd_same, List.replicate_succ']⟩⟩
            rw [List.length_replicate]
            exact small1000 (by omega)
          · rintro H' ⟨s1, hL⟩
            refine ⟨L, List.replicate xs.length true, rfl, SqL.of (hL.trans (by rw [List.map_replicate])), ?_⟩
            rw [all_rep]
            exact k _ s1
        · refine ⟨_, rfl, _, _, _, _, false, rfl, .ty _, .base (.tup hA), kit_ty (by decide +kernel), false, rfl, iteF ?_⟩
          refine ⟨_, rfl, _, _, _, _, true, rfl, .ty _, .base (.tup hA), kit_ty (by decide +kernel), true, rfl, iteT ?_⟩
          refine .inr ⟨_, rfl, a, rfl, ⟨_, SqT.of hA⟩, fun L new => lc_tup (K := K) (a := a) (xs := xs) (fun i H' => Same H H' ∧ H' L = some (.lst (List.replicate i (V.bl true)))) ⟨same_new new, upd_same⟩ (fun i H' _ h => SqT.of (h.1 _ _ hA)) ?_ ?_⟩
          · rintro i x H' hxi ⟨s1, hL⟩
            have hi := (List.getElem?_eq_some_iff.mp hxi).1
            refine ⟨rfl, _, rfl, x, rfl, PlainV.same s1 (hx x (List.mem_of_getElem? hxi)), fun H2 s2 => ⟨List.replicate i (V.bl true), s2 _ _ hL, ?_, samePut (s1.trans s2) new, by rw [upd_same, List.replicate_succ']⟩⟩
            rw [List.length_replicate]
            exact small1000 (by omega)
          · rintro H' ⟨s1, hL⟩
            refine ⟨L, List.replicate xs.length true, rfl, SqL.of (hL.trans (by rw [List.map_replicate])), ?_⟩
            rw [all_rep]
            exact k _ s1
/-! ### _law_truths -/
def spTruths : Sp := fun vs H Q _ => ∃ (a : Addr) (bs : List Bool), vs = [.ref a] ∧ H a = some (.lst (bs.map V.bl)) ∧ bs.length ≤ 1000 ∧ ∀ H', Same H H' → Q (.bl true) H'
abbrev nmTruths : List Str := ["_law_things", "_law_one"]
theorem scTruths : FnScope nmTruths ["_law_things"] (defScope sTruths) := ⟨rfl, rfl, rfl, by decide +kernel, rfl, by decide +kernel, by decide +kernel⟩
theorem ok_truths (T : Txt K mg D) : Prom P w K mg base 1 D.truths ["_law_things"] spTruths := by
  obtain ⟨fd, F⟩ := T.truths.fn
  refine ⟨⟨fd, ?_, F.binds fun _ _ _ _ _ _ us hl => match us, hl with | [_], _ => rfl⟩, F.kp⟩
  refine F.ok scTruths (fun vs H Q E h => ?_) (fun cdv A outer s H vs Q E hr h => ?_)
  · obtain ⟨a, bs, rfl, _⟩ := h
    rfl
  · obtain ⟨a, bs, rfl, hA, hl, k⟩ := h
    have nd := scTruths.nd
    refine ⟨_, pss_one (ps_ret (pe_callB (cr_all rfl) (by rfl) T.zAll (by decide +kernel) (pa_cons (pe_lc (own := [("_law_one", 1)]) (g := gName 1) (tt := tYes) rfl nd (pi_list (pv 0)) (blkOk_by (N := nmTruths) (sc := defScope sTruths) (by decide +kernel))
      (fun _ _ _ _ _ => pg_name (i := 1) nd rfl (Or.inl rfl)) (fun _ _ _ _ _ => pts_nil) (fun _ _ _ _ _ => pe_callB (isiK K) (by rfl) T.zIsi (by decide +kernel) (pa_cons (pv 1) (pa_cons (pe_bltn (v := .ty "bool") (by rfl) T.zBool (by decide +kernel) rfl) pa_nil)))) pa_nil))), ?_⟩
    refine ⟨_, rfl, a, rfl, ⟨_, SqL.of hA⟩, fun L new => lc_list (K := K) (a := a) (xs := bs.map V.bl) (fun i H' => Same H H' ∧ H' L = some (.lst (List.replicate i (V.bl true)))) ⟨same_new new, upd_same⟩ (fun i H' _ h => SqL.of (h.1 _ _ hA)) ?_ ?_⟩
    · rintro i x H' hxi ⟨s1, hL⟩
      have hi := (List.getElem?_eq_some_iff.mp hxi).1
      rw [List.length_map] at hi
      rw [List.getElem?_map, List.getElem?_eq_getElem hi] at hxi
      obtain rfl := Option.some.inj hxi
      refine ⟨rfl, _, rfl, _, _, _, _, true, rfl, .ty _, .base (.bl _), kit_ty (by decide +kernel), List.replicate i (V.bl true), hL, ?_, samePut s1 new, by rw [upd_same, List.replicate_succ']⟩
      rw [List.length_replicate]
      exact small1000 (by omega)
    · rintro H' ⟨s1, hL⟩
      refine ⟨L, List.replicate (bs.map V.bl).length true, rfl, SqL.of (hL.trans (by rw [List.map_replicate])), ?_⟩
      rw [all_rep]
      exact k _ s1
end
end RP
namespace RP
open PySem PySem.Spec PyProof.Rows L2
section
variable {X : Cx} {k : Nat} {f C : Addr} {ps : List Str} {sp : Sp} {m : Str} {apos pos : Pos} {o e : PySem.Expr} {es : List PySem.Expr} {ta : TE} {t : TA}
theorem pe_me {pl : Sem Bool} (he : PE X o ta) (c : Cls X.K C) (hm : Meth X.K C m f) (G : Prom X.prog X.w X.K X.mg X.base k f ps sp) (hr : Room k X.A) (ha : PA X (e :: es) t)
    (hst : starEach (e :: es) X.env = (false, eval e X.env) :: starEach es X.env := by rfl) (hpl : (backTo pos (starEach es X.env)).any (·.1) = false := by rfl)
    (ht : eval (.Call (.Attribute o m apos) (e :: es) [] pos) X.env = (do
      let ov ← eval o X.env
      standAt apos.atName
      let (f, first) ← holding [ov] (getMethod ov m pl)
      callWith pos f first (backTo pos (starEach (e :: es) X.env)) (backToKw pos (keywordEach [] X.env))) := by rfl) :
    PE X (.Call (.Attribute o m apos) (e :: es) [] pos) (tMeth C m sp [] E0 ta t) := by
  obtain ⟨⟨fd, F, b⟩, kp⟩ := G
  exact pe_meth he c hm F hr b .nil pass0 ha hst hpl ht
end
theorem told_shape {T : List (List Int)} {rent : Int} {g : List Nat} (h : 0 < T.length) : (∃ ps, told T rent g = .priced ps ∧ ps.length = T.length) ∨ ∃ p, told T rent g = .ring p ∧ p.length ≤ T.length + 1 := by
  unfold told
  cases e : barring T g with
  | none => exact .inl ⟨_, rfl, pricesOf_len _ _ _ h⟩
  | some around => exact .inr ⟨_, rfl, by rw [List.length_map]; exact (barring_lt e).2⟩
section
variable {P : Program} {w : World} {K : PySem.W.Frag} {mg : Str → Option Value} {base : Heap} {D : Adr}
/-! ### _law_table_right -/
theorem sh_pr : ¬ (("shows" : Str) = "prices") := by decide +kernel
theorem sh_ri : ¬ (("shows" : Str) = "people") := by decide +kernel
theorem sh_ro : ¬ (("shows" : Str) = "rooms") := by decide +kernel
/-- what told answers: its list is read by the class's own name -/
theorem read_ans (T : Txt K mg D) {H : Hp} {pa : Addr} {t : Told} (h : ToldAt D H pa t) (hl : (∃ ps, t = .priced ps ∧ ps.length ≤ 1000) ∨ ∃ p, t = .ring p ∧ p.length ≤ 1000) : ∃ (la : Addr) (ns : List Int), H la = some (.lst (iv ns)) ∧ ns.length ≤ 1000 ∧
    ∀ (H' : Hp), Same H H' → ∀ (σ : L2.St) (Q : VK), σ[3]? = some (some (.ref pa)) → Q (.ref la) H' → tIf (tB (tCB (rIsi K) (tCons (tVar 3) (tCons (tC (.ref D.cPr)) tNil)))) (tFld K (tVar 3) "prices") (tFld K (tVar 3) "people") σ H' Q := by
  cases t with
  | priced ps =>
    obtain ⟨dx, l, h1, h2⟩ := h
    have hl' : ps.length ≤ 1000 := by
      rcases hl with ⟨ps', e, z⟩ | ⟨p', e, z⟩
      · cases e; exact z
      · cases e
    refine ⟨l, ps, h2, hl', fun H' sH σ Q hσ q => ?_⟩
    have h1 := sH _ _ h1
    refine ⟨_, hσ, _, _, _, _, true, rfl, .own _, .base (.ins h1 T.cPr.cl T.cPr.ha T.cget T.ctk T.cPr.mr), T.isPrPr, true, rfl, iteT ?_⟩
    exact ⟨_, hσ, pa, D.cPr, dx, _, _, rfl, h1, T.cPr.cl, T.prPrices, fPr_at l, q⟩
  | ring p =>
    obtain ⟨dx, l, h1, h2⟩ := h
    have hl' : p.length ≤ 1000 := by
      rcases hl with ⟨ps', e, z⟩ | ⟨p', e, z⟩
      · cases e
      · cases e; exact z
    refine ⟨l, zi p, by rw [← nv_iv]; exact h2, by rw [List.length_map]; exact hl', fun H' sH σ Q hσ q => ?_⟩
    have h1 := sH _ _ h1
    refine ⟨_, hσ, _, _, _, _, false, rfl, .own _, .base (.ins h1 T.cRi.cl T.cRi.ha T.cget T.ctk T.cRi.mr), T.isRiPr, false, rfl, iteF ?_⟩
    exact ⟨_, hσ, pa, D.cRi, dx, _, _, rfl, h1, T.cRi.cl, T.riPeople, fRi_at l, q⟩
/-- an answer that may be asked whether it shows -/
def ShowsAt (D : Adr) (H : Hp) (n : Nat) (x : V) : Prop := (∃ p ps, x = .ref p ∧ PrAt D.cPr H p ps ∧ ps.length = n) ∨ ∃ p g, x = .ref p ∧ RiAt D.cRi H p g ∧ g.length ≤ 100
theorem ShowsAt.same {H H' : Hp} {n : Nat} {x : V} (h : ShowsAt D H n x) (s : Same H H') : ShowsAt D H' n x := by
  rcases h with ⟨p, ps, e, h1, h2⟩ | ⟨p, g, e, h1, h2⟩
  · exact .inl ⟨p, ps, e, h1.same s, h2⟩
  · exact .inr ⟨p, g, e, h1.same s, h2⟩
def spTabRight : Sp := fun vs H Q _ => ∃ (a b : Addr) (T : List (List Int)) (rent : Int) (g : List Nat), vs = [.ref a, .int rent, .ref b] ∧ Tab H a T ∧ IsTab T ∧ H b = some (.lst (nv g)) ∧ Giving T.length g ∧ ∀ H', Same H H' → Q (.bl true) H'
abbrev nmTabRight : List Str := ["_law_table", "_law_rent", "_law_giving", "_law_answer", "_law_good", "_law_found", "_law_shown", "_law_built"]
theorem scTabRight : FnScope nmTabRight ["_law_table", "_law_rent", "_law_giving"] (defScope sTabRight) := ⟨rfl, rfl, rfl, by decide +kernel, rfl, by decide +kernel, by decide +kernel⟩
theorem ok_tabRight (T : Txt K mg D) : Prom P w K mg base 6 D.tabRight ["_law_table", "_law_rent", "_law_giving"] spTabRight := by
  obtain ⟨fd, F⟩ := T.tabRight.fn
  have G1 := ok_told (P := P) (w := w) (base := base) T
  have G2 := ok_settled (P := P) (w := w) (base := base) T
  have G3 := (ok_worth (P := P) (w := w) (base := base) T).mono (j := 5) (by decide)
  have G4 := (ok_most (P := P) (w := w) (base := base) T).mono (j := 5) (by decide)
  have G5 := (ok_between (P := P) (w := w) (base := base) T).mono (j := 5) (by decide)
  have G6 := ok_prInit (P := P) (w := w) (base := base) T
  have G7 := ok_riInit (P := P) (w := w) (base := base) T
  have G8 := ok_seInit (P := P) (w := w) (base := base) T
  have M1 := (ok_prShows (P := P) (w := w) (base := base) T).mono (j := 5) (by decide)
  have M2 := (ok_riShows (P := P) (w := w) (base := base) T).mono (j := 5) (by decide)
  have M3 := (ok_seShows (P := P) (w := w) (base := base) T).mono (j := 5) (by decide)
  have G9 := (ok_fit (P := P) (w := w) (base := base) T).mono (j := 5) (by decide)
  have GA := (ok_plain (P := P) (w := w) (base := base) T 2).mono (j := 5) (by decide)
  have GB := (ok_truths (P := P) (w := w) (base := base) T).mono (j := 5) (by decide)
  refine ⟨⟨fd, ?_, F.binds fun _ _ _ _ _ _ us hl => match us, hl with | [_, _, _], _ => rfl⟩, F.kp⟩
  refine F.ok scTabRight (fun vs H Q E h => ?_) (fun cdv A outer s H vs Q E hr h => ?_)
  · obtain ⟨a, b, TT, rent, g, rfl, _⟩ := h
    rfl
  · obtain ⟨a, b, TT, rent, g, rfl, ha, ht, hb, hg, k⟩ := h
    have nd := scTabRight.nd
    have hr2 : Room 2 _ := hr.mono (by decide)
    refine ⟨_, pss_cons (ps_par (i := 3) (j := 4) (by rfl) nd rfl rfl (by decide) rfl rfl (pa_cons (pe_cl G1 hr T.told.gl (pa_cons (pv 0) (pa_cons (pv 1) (pa_cons (pv 2) pa_nil)))) (pa_cons (pe_cl G2 hr T.settled.gl (pa_cons (pv 0) (pa_cons (pv 1) pa_nil))) pa_nil)) (by rfl))
      (pss_cons (ps_set (i := 5) nd rfl (Or.inl rfl) (pe_lst (pa_cons (pe_cl G3 hr T.worth.gl (pa_cons (pv 0) (pa_cons (pv 2) pa_nil))) (pa_cons (pe_cl G4 hr T.most.gl (pa_cons (pv 0) pa_nil)) (pa_cons (pe_fld (pv 4) rfl) (pa_cons (pe_fld (pv 4) rfl)
        (pa_cons (pe_cl G5 hr T.between.gl (pa_cons (pv 0) (pa_cons (pv 1) (pa_cons (pe_fld (pv 4) rfl) (pa_cons pe_int pa_nil))))) pa_nil)))))))
      (pss_cons (ps_expr (pe_bm PySem.F.plainAttrs_list PySem.F.slot_list_append PySem.F.type_list_append mt_append (pv 5) (pa_cons (pe_ifExp (pt_val (pe_callB (isiK K) (by rfl) T.zIsi (by decide +kernel) (pa_cons (pv 3) (pa_cons (pe_glob (v := .ref D.cPr) (by rfl) T.cPr.gl rfl) pa_nil))))
        (pe_fld (pv 3) rfl) (pe_fld (pv 3) rfl)) pa_nil)))
      (pss_cons (ps_setLc (i := 6) (own := [("_law_built", 7)]) (g := gName 7) (tt := tYes) rfl nd rfl rfl (sw_true rfl rfl rfl (by decide +kernel))
        (pi_list (pe_lst (pa_cons (pv 3) (pa_cons (pe_mk T.cPr.mkr G6 hr2 T.cPr.gl (pa_cons (pe_fld (pv 4) rfl) pa_nil)) (pa_cons (pe_mk T.cRi.mkr G7 hr2 T.cRi.gl (pa_cons (pe_lst (pa_cons pe_int pa_nil)) pa_nil)) pa_nil)))))
        (blkOk_by (N := nmTabRight) (sc := defScope sTabRight) (by decide +kernel)) (fun _ _ _ _ _ => pg_name (i := 7) nd rfl (Or.inl rfl)) (fun _ _ _ _ _ => pts_nil)
        (fun _ _ _ _ _ => pe_alt (pe_me (pv 7) T.cPr.cl T.prShows M1 hr (pa_cons (pv 0) (pa_cons (pv 1) (pa_cons (pv 2) pa_nil)))) (pe_me (pv 7) T.cRi.cl T.riShows M2 hr (pa_cons (pv 0) (pa_cons (pv 1) (pa_cons (pv 2) pa_nil))))))
      (pss_cons (ps_set (i := 6) nd rfl (Or.inl rfl) (pe_op op_cat (pv 6) (pe_lst (pa_cons (pe_me (pv 4) T.cSe.cl T.seShows M3 hr (pa_cons (pv 0) (pa_cons (pv 1) pa_nil)))
        (pa_cons (pe_me (pe_mk T.cSe.mkr G8 hr2 T.cSe.gl (pa_cons (pv 2) (pa_cons (pe_fld (pv 4) rfl) pa_nil))) T.cSe.cl T.seShows M3 hr (pa_cons (pv 0) (pa_cons (pv 1) pa_nil))) pa_nil)))))
      (pss_cons (ps_expr (pe_bm PySem.F.plainAttrs_list PySem.F.slot_list_append PySem.F.type_list_append mt_append (pv 6) (pa_cons (pe_cl G9 hr T.fit.gl (pa_cons (pv 0) (pa_cons (pv 1) (pa_cons (pv 2) (pa_cons (pe_fld (pv 4) rfl) pa_nil))))) pa_nil)))
      (pss_one (ps_ret (pe_and (pe_cl GA hr T.plain.gl (pa_cons (pv 5) pa_nil)) (pe_and (pe_cl GB hr T.truths.gl (pa_cons (pv 6) pa_nil))
        (pe_one (pe_callB (isiK K) (by rfl) T.zIsi (by decide +kernel) (pa_cons (pe_ix (ixK K) (pv 5) pe_int (fun _ _ => rfl)) (pa_cons (pe_bltn (v := .ty "tuple") (by rfl) T.zTuple (by decide +kernel) rfl) pa_nil))))))))))))), ?_⟩
    have hp0 := ht.pos
    have hm := ht.most
    have big : (64 : Nat) ≤ sizeLine := by decide
    -- answer, good
    refine ⟨_, rfl, _, rfl, _, rfl, a, b, TT, rent, g, rfl, ha, ht, hb, hg, fun H1 pa s1 hpa => ⟨_, rfl, _, rfl, a, TT, rent, rfl, ha.same s1, ht, fun H2 pg s2 hpg => ⟨_, _, rfl, ?_⟩⟩⟩
    have S2 := s1.trans s2
    have hpa := hpa.same s2
    -- found
    refine ⟨_, rfl, _, rfl, a, b, TT, g, rfl, ha.same S2, ht, S2 _ _ hb, hg, fun H3 s3 => ?_⟩
    have S3 := S2.trans s3
    have hpa := hpa.same s3
    have hpg := hpg.same s3
    refine ⟨_, rfl, a, TT, rfl, ha.same S3, ht, fun H4 s4 => ?_⟩
    have S4 := S3.trans s4
    have hpa := hpa.same s4
    have hpg := hpg.same s4
    obtain ⟨dg, lr, lp, hg1, hg2, hg3⟩ := id hpg
    refine ⟨_, rfl, pg, D.cSe, dg, _, _, rfl, hg1, T.cSe.cl, T.seRooms, fSe_rooms lr lp, _, rfl, pg, D.cSe, dg, _, _, rfl, hg1, T.cSe.cl, T.sePrices, fSe_prices lr lp, ?_⟩
    refine ⟨_, rfl, _, rfl, _, rfl, pg, D.cSe, dg, _, _, rfl, hg1, T.cSe.cl, T.seRooms, fSe_rooms lr lp, a, lr, TT, rent, best TT, 0, rfl, ha.same S4, ht, hg2, best_giving TT, by omega, best_free TT, fun H5 tp s5 ntp htp => ?_⟩
    have S5 := S4.trans s5
    have hpa := hpa.same s5
    have hpg := hpg.same s5
    refine ⟨by show 5 ≤ sizeLine; omega, fun F nF => ?_⟩
    have s6 := same_new (o := .lst [V.int (worth TT g), V.int (most TT), V.ref lr, V.ref lp, V.ref tp]) nF
    have hF : upd H5 F (.lst [V.int (worth TT g), V.int (most TT), V.ref lr, V.ref lp, V.ref tp]) F = some (.lst [V.int (worth TT g), V.int (most TT), V.ref lr, V.ref lp, V.ref tp]) := upd_same
    generalize upd H5 F (.lst [V.int (worth TT g), V.int (most TT), V.ref lr, V.ref lp, V.ref tp]) = H6 at s6 hF ⊢
    have S6 := S5.trans s6
    have fF : H F = none := S5.free nF
    -- found.append(..)
    have shp := told_shape (T := TT) (rent := rent) (g := g) (by omega)
    obtain ⟨la, ns, hla, hns, rd⟩ := read_ans T hpa (shp.elim (fun ⟨ps, e, z⟩ => .inl ⟨ps, e, by omega⟩) fun ⟨p, e, z⟩ => .inr ⟨p, e, by omega⟩)
    refine ⟨_, rfl, .inl ⟨rfl, _, SqL.of hF⟩, rd H6 s6 _ _ rfl ?_⟩
    refine ⟨F, _, _, rfl, rfl, hF, by show 5 < sizeLine; omega, ?_⟩
    have s57 : Same H5 (upd H6 F (.lst ([V.int (worth TT g), V.int (most TT), V.ref lr, V.ref lp, V.ref tp] ++ [V.ref la]))) := samePut s6 nF
    have hF7 : upd H6 F (.lst ([V.int (worth TT g), V.int (most TT), V.ref lr, V.ref lp, V.ref tp] ++ [V.ref la])) F = some (.lst [V.int (worth TT g), V.int (most TT), V.ref lr, V.ref lp, V.ref tp, V.ref la]) := upd_same
    generalize upd H6 F (.lst ([V.int (worth TT g), V.int (most TT), V.ref lr, V.ref lp, V.ref tp] ++ [V.ref la])) = H7 at s57 hF7 ⊢
    have S7 := S5.trans s57
    have hpa7 := hpa.same s57
    have hpg7 := hpg.same s57
    have g7 := s57 _ _ (s5 _ _ hg1)
    have r7 := s57 _ _ (s5 _ _ hg2)
    have p7 := s57 _ _ (s5 _ _ hg3)
    have t7 := s57 _ _ htp
    have a7 := s57 _ _ hla
    clear s6 hF rd
    have hpl : (pricesOf TT rent (best TT)).length = TT.length := pricesOf_len _ _ _ (by omega)
    -- shown
    refine ⟨_, rfl, _, rfl, pg, D.cSe, dg, _, _, rfl, g7, T.cSe.cl, T.sePrices, fSe_prices lr lp, ?_⟩
    intro q1 d1 nq1 nd1 ne1
    have keep1 : ∀ b u, H7 b = some u → upd (upd H7 d1 (.own q1)) q1 (.ins D.cPr d1 []) b = some u := fun b u e => by
      rw [upd_ne (ne_of_none e nq1), upd_ne (ne_of_none e nd1)]
      exact e
    refine ⟨q1, lp, d1, pricesOf TT rent (best TT), rfl, upd_same, keep1 _ _ p7, fun H8 k8 hq1 => ⟨rfl, ?_⟩⟩
    have s8 := Kept.same nq1 nd1 k8
    refine ⟨by show 1 ≤ sizeLine; omega, fun z nz => ?_⟩
    have s9 := same_new (o := .lst [V.int 0]) nz
    have hz : upd H8 z (.lst [V.int 0]) z = some (.lst (nv [0])) := upd_same
    generalize upd H8 z (.lst [V.int 0]) = H9 at s9 hz ⊢
    intro q2 d2 nq2 nd2 ne2
    have keep2 : ∀ b u, H9 b = some u → upd (upd H9 d2 (.own q2)) q2 (.ins D.cRi d2 []) b = some u := fun b u e => by
      rw [upd_ne (ne_of_none e nq2), upd_ne (ne_of_none e nd2)]
      exact e
    refine ⟨q2, z, d2, [0], rfl, upd_same, keep2 _ _ hz, fun HA kA hq2 => ⟨rfl, ?_⟩⟩
    have sA := s8.trans (s9.trans (Kept.same nq2 nd2 kA))
    refine ⟨by show 3 ≤ sizeLine; omega, fun I nI => ?_⟩
    have sI := same_new (o := .lst [V.ref pa, V.ref q1, V.ref q2]) nI
    have hI : upd HA I (.lst [V.ref pa, V.ref q1, V.ref q2]) I = some (.lst [V.ref pa, V.ref q1, V.ref q2]) := upd_same
    generalize upd HA I (.lst [V.ref pa, V.ref q1, V.ref q2]) = HB at sI hI ⊢
    have hq1A := hq1.same (s9.trans (Kept.same nq2 nd2 kA))
    have s7B := sA.trans sI
    have SB := S7.trans s7B
    have allS : ∀ x ∈ [V.ref pa, V.ref q1, V.ref q2], ShowsAt D HB TT.length x := by
      intro x hx
      rcases List.mem_cons.mp hx with rfl | hx
      · have hB := hpa7.same s7B
        rcases shp with ⟨ps, e, z⟩ | ⟨p, e, z⟩
        · rw [e] at hB
          exact .inl ⟨pa, ps, rfl, hB, z⟩
        · rw [e] at hB
          exact .inr ⟨pa, p, rfl, hB, by omega⟩
      · rcases List.mem_cons.mp hx with rfl | hx
        · exact .inl ⟨q1, _, rfl, hq1A.same sI, hpl⟩
        · rw [List.mem_singleton.mp hx]
          exact .inr ⟨q2, [0], rfl, hq2.same sI, by decide⟩
    refine ⟨I, rfl, ⟨_, SqL.of hI⟩, fun L nL => lc_list (K := K) (a := I) (xs := [V.ref pa, V.ref q1, V.ref q2]) (fun i H' => Same HB H' ∧ ∃ bs : List Bool, bs.length = i ∧ H' L = some (.lst (bs.map V.bl))) ⟨same_new nL, [], rfl, upd_same⟩ (fun i H' _ h => SqL.of (h.1 _ _ hI)) ?_ ?_⟩
    · rintro i x HC hx ⟨sC, bs, hbl, hL⟩
      have hi : i < 3 := (List.getElem?_eq_some_iff.mp hx).1
      have hS := (allS x (List.mem_of_getElem? hx)).same sC
      have SC := SB.trans sC
      refine ⟨rfl, ?_⟩
      have fin : ∀ (b : Bool) (HD : Hp), Same HC HD → ∃ acc, HD L = some (.lst acc) ∧ acc.length < sizeLine ∧ (Same HB (upd HD L (.lst (acc ++ [V.bl b]))) ∧ ∃ bs : List Bool, bs.length = i + 1 ∧ upd HD L (.lst (acc ++ [V.bl b])) L = some (.lst (bs.map V.bl))) := fun b HD sD =>
        ⟨bs.map V.bl, sD _ _ hL, by rw [List.length_map]; exact small1000 (by omega), samePut (sC.trans sD) nL, bs ++ [b], by rw [List.length_append, hbl]; rfl, by rw [upd_same, List.map_append]; rfl⟩
      rcases hS with ⟨p, ps, rfl, hp, hpn⟩ | ⟨p, gg, rfl, hp, hpn⟩
      · obtain ⟨dx, l, h1, h2⟩ := id hp
        exact Or.inl ⟨_, rfl, p, dx, _, rfl, h1, fPr_no l sh_pr, _, rfl, _, rfl, _, rfl, p, a, b, ps, TT, rent, g, rfl, hp, ha.same SC, ht, SC _ _ hb, hg, hpn, fun HD sD => fin _ HD sD⟩
      · obtain ⟨dx, l, h1, h2⟩ := id hp
        exact Or.inr ⟨_, rfl, p, dx, _, rfl, h1, fRi_no l sh_ri, _, rfl, _, rfl, _, rfl, p, a, b, gg, TT, rent, g, rfl, hp, hpn, ha.same SC, ht, SC _ _ hb, hg, fun HD sD => fin _ HD sD⟩
    rintro HC ⟨sC, bs, hbl, hL⟩
    have hbl : bs.length = 3 := hbl
    have SC := SB.trans sC
    have s7C := s7B.trans sC
    -- shown + [..]
    refine ⟨_, rfl, ?_⟩
    have hgC := hpg7.same s7C
    refine ⟨_, rfl, pg, dg, _, rfl, s7C _ _ g7, fSe_no lr lp sh_ro sh_pr, _, rfl, _, rfl, pg, a, best TT, pricesOf TT rent (best TT), TT, rent, rfl, hgC, ha.same SC, ht, fun HD sD => ?_⟩
    have s7D := s7C.trans sD
    have SD := SC.trans sD
    refine ⟨_, rfl, _, rfl, pg, D.cSe, dg, _, _, rfl, s7D _ _ g7, T.cSe.cl, T.sePrices, fSe_prices lr lp, ?_⟩
    intro q3 d3 nq3 nd3 ne3
    have keep3 : ∀ b u, HD b = some u → upd (upd HD d3 (.own q3)) q3 (.ins D.cSe d3 []) b = some u := fun b u e => by
      rw [upd_ne (ne_of_none e nq3), upd_ne (ne_of_none e nd3)]
      exact e
    refine ⟨q3, b, lp, d3, g, pricesOf TT rent (best TT), rfl, upd_same, keep3 _ _ (SD _ _ hb), keep3 _ _ (s7D _ _ p7), fun HE kE hq3 => ⟨rfl, ?_⟩⟩
    have sE := Kept.same nq3 nd3 kE
    have s7E := s7D.trans sE
    have SE := SD.trans sE
    obtain ⟨d3', r3, l3, h31, h32, h33⟩ := id hq3
    refine ⟨q3, d3', _, rfl, h31, fSe_no r3 l3 sh_ro sh_pr, _, rfl, _, rfl, q3, a, g, pricesOf TT rent (best TT), TT, rent, rfl, hq3, ha.same SE, ht, fun HG sG => ?_⟩
    have s7G := s7E.trans sG
    have SG := SE.trans sG
    have sCG := sD.trans (sE.trans sG)
    refine ⟨by show 2 ≤ sizeLine; omega, fun M nM => ?_⟩
    have sM := same_new (o := .lst [V.bl (setShows TT rent (best TT) (pricesOf TT rent (best TT))), V.bl (setShows TT rent g (pricesOf TT rent (best TT)))]) nM
    have hM : upd HG M (.lst [V.bl (setShows TT rent (best TT) (pricesOf TT rent (best TT))), V.bl (setShows TT rent g (pricesOf TT rent (best TT)))]) M = some (.lst ([setShows TT rent (best TT) (pricesOf TT rent (best TT)), setShows TT rent g (pricesOf TT rent (best TT))].map V.bl)) := upd_same
    generalize upd HG M (.lst [V.bl (setShows TT rent (best TT) (pricesOf TT rent (best TT))), V.bl (setShows TT rent g (pricesOf TT rent (best TT)))]) = HJ at sM hM ⊢
    have hLJ := sM _ _ (sCG _ _ hL)
    refine ⟨L, M, _, _, rfl, rfl, hLJ, hM, by rw [List.length_map, hbl]; show 3 + 2 ≤ sizeLine; omega, fun N nN => ?_⟩
    rw [← List.map_append]
    have cl5 : (bs ++ [setShows TT rent (best TT) (pricesOf TT rent (best TT)), setShows TT rent g (pricesOf TT rent (best TT))]).length = 5 := by rw [List.length_append, hbl]; rfl
    generalize bs ++ [setShows TT rent (best TT) (pricesOf TT rent (best TT)), setShows TT rent g (pricesOf TT rent (best TT))] = cs at cl5 ⊢
    have sN := same_new (o := .lst (cs.map V.bl)) nN
    have hN : upd HJ N (.lst (cs.map V.bl)) N = some (.lst (cs.map V.bl)) := upd_same
    generalize upd HJ N (.lst (cs.map V.bl)) = HK at sN hN ⊢
    have sGK := sM.trans sN
    have s7K := s7G.trans sGK
    have SK := SG.trans sGK
    have nNG : HG N = none := sM.free nN
    -- shown.append(fit(..))
    refine ⟨_, rfl, .inl ⟨rfl, _, SqL.of hN⟩, _, rfl, _, rfl, _, rfl, _, rfl, pg, D.cSe, dg, _, _, rfl, s7K _ _ g7, T.cSe.cl, T.sePrices, fSe_prices lr lp, a, b, lp, TT, rent, g, pricesOf TT rent (best TT), rfl, ha.same SK, ht, SK _ _ hb, hg, s7K _ _ p7, hpl, fun HL sL => ?_⟩
    refine ⟨N, _, _, rfl, rfl, sL _ _ hN, by rw [List.length_map, cl5]; show 5 < sizeLine; omega, ?_⟩
    have s7L := s7G.trans (sM.trans (sN.trans sL))
    have nN7 : H7 N = none := s7G.free (sM.free nN)
    have s7M := samePut (o := .lst (cs.map V.bl ++ [V.bl (areFit TT rent g (pricesOf TT rent (best TT)))])) s7L nN7
    have SM := S7.trans s7M
    have hNM : upd HL N (.lst (cs.map V.bl ++ [V.bl (areFit TT rent g (pricesOf TT rent (best TT)))])) N = some (.lst ((cs ++ [areFit TT rent g (pricesOf TT rent (best TT))]).map V.bl)) := by
      rw [upd_same, List.map_append]
      rfl
    generalize upd HL N (.lst (cs.map V.bl ++ [V.bl (areFit TT rent g (pricesOf TT rent (best TT)))])) = HM at s7M SM hNM ⊢
    -- the answer
    have plainF : PlainV 2 HM (V.ref F) := by
      refine .inr ⟨F, _, rfl, .inl (s7M _ _ hF7), by show 6 ≤ 1000; omega, fun x hx => ?_⟩
      have pl : ∀ (l : Addr) (xs : List Int), HM l = some (.lst (iv xs)) → xs.length ≤ 1000 → PlainV 1 HM (V.ref l) := fun l xs e z => .inr ⟨l, _, rfl, .inl e, by rw [len_iv]; exact z, fun y hy => by
        obtain ⟨i, _, rfl⟩ := List.mem_map.mp hy
        exact ⟨i, rfl⟩⟩
      simp only [List.mem_cons, List.not_mem_nil, or_false] at hx
      rcases hx with rfl | rfl | rfl | rfl | rfl | rfl
      · exact .inl ⟨_, rfl⟩
      · exact .inl ⟨_, rfl⟩
      · refine pl lr (zi (best TT)) (by rw [← nv_iv]; exact s7M _ _ r7) ?_
        rw [List.length_map, (best_giving TT).len]
        omega
      · exact pl lp _ (s7M _ _ p7) (by omega)
      · refine .inr ⟨tp, _, rfl, .inr (s7M _ _ t7), by show 2 ≤ 1000; omega, fun y hy => ?_⟩
        simp only [List.mem_cons, List.not_mem_nil, or_false] at hy
        rcases hy with rfl | rfl
        · exact ⟨_, rfl⟩
        · exact ⟨_, rfl⟩
      · exact pl la ns (s7M _ _ a7) hns
    refine ⟨_, rfl, V.ref F, rfl, plainF, fun HN sN2 => ⟨true, rfl, iteT ?_⟩⟩
    refine ⟨_, rfl, N, _, rfl, sN2 _ _ hNM, by rw [List.length_append, cl5]; show 5 + 1 ≤ 1000; omega, fun HO sO => ⟨true, rfl, iteT ?_⟩⟩
    have sMO := sN2.trans sO
    refine ⟨_, rfl, F, _, 4, V.ref tp, rfl, rfl, SqL.of (sMO _ _ (s7M _ _ hF7)), rfl, _, _, _, _, true, rfl, .ty _, .base (.tup (sMO _ _ (s7M _ _ t7))), kit_ty (by decide +kernel), ?_⟩
    exact k _ (SM.trans sMO)
end
end RP
namespace RP
open PySem PySem.Spec PyProof.Rows L2
section
variable {X : Cx}
/-- what is known ahead of a block may be used for it -/
theorem pss_if {sts : List Stmt} {p : Prop} {t : TS} (h : p → PSs X sts t) : PSs X sts (fun D σ H => p ∧ t D σ H) :=
  ⟨fun pins s σ H D I hw => (h hw.1).run pins s σ H D I hw.2⟩
end
section
variable {P : Program} {w : World} {K : PySem.W.Frag} {mg : Str → Option Value} {base : Heap} {D : Adr}
/-! ### between, where a ring bars the prices -/
def spBetweenX (C : Addr) : Sp := fun vs H _ E => ∃ (a b : Addr) (T : List (List Int)) (rent : Int) (g : List Nat) (room : Nat), vs = [.ref a, .int rent, .ref b, .int (room : Nat)] ∧ Tab H a T ∧ IsTab T ∧ H b = some (.lst (nv g)) ∧ Giving T.length g ∧ room < T.length ∧ barring T g ≠ none ∧
  ∀ H', Same H H' → E (.ref C) none H'
theorem ok_betweenX (T : Txt K mg D) : ∃ fd, FnOk P w K mg base (L2.CX P w) 4 D.between fd ["table", "rent", "giving", "room"] (spBetweenX D.cNoPrices) ∧ Binds K fd ["table", "rent", "giving", "room"] [] ∧ PySem.W.keepIn K (.ref D.between) = true := by
  obtain ⟨fd, F⟩ := T.between.fn
  have G1 := ok_askT (P := P) (w := w) (base := base) T
  have G2 := (ok_askR (P := P) (w := w) (base := base) T).mono (j := 3) (by decide)
  have G3 := ok_askG (P := P) (w := w) (base := base) T
  have G4 := (ok_isNum (P := P) (w := w) (base := base) T).mono (j := 3) (by decide)
  have G5 := ok_barring (P := P) (w := w) (base := base) T
  refine ⟨fd, ?_, F.binds fun _ _ _ _ _ _ us hl => match us, hl with | [_, _, _, _], _ => rfl, F.kp⟩
  refine F.okX scBetween (fun vs H Q E h => ?_) (fun cdv A outer s H vs Q E hr h => ?_)
  · obtain ⟨a, b, TT, rent, g, room, rfl, _⟩ := h
    rfl
  · obtain ⟨a, b, TT, rent, g, room, rfl, ha, ht, hb, hg, hroom, hbar, k⟩ := h
    have nd := scBetween.nd
    refine ⟨_, pss_cons (ps_expr (pe_cl G1 hr T.askT.gl (pa_cons (pv 0) pa_nil))) (pss_cons (ps_expr (pe_cl G2 hr T.askR.gl (pa_cons (pv 1) pa_nil)))
      (pss_cons (ps_expr (pe_cl G3 hr T.askG.gl (pa_cons (pv 0) (pa_cons (pv 2) pa_nil))))
      (pss_cons (ps_if (PW.pt (pw_or (pt_not (pt_val (pe_cl G4 hr T.isNum.gl (pa_cons (pv 3) pa_nil)))) (pw_or1 (pt_not (pt_chain op_le op_lt pe_int (pv 3) (pe_callB (lenK K) (by rfl) T.zLen PySem.boot_len (pa_cons (pv 0) pa_nil))))))) (pss_one ps_never) pss_nil)
      (pss_cons (ps_if (pt_cmp (pc_notN (pe_cl G5 hr T.barring.gl (pa_cons (pv 0) (pa_cons (pv 2) pa_nil)))))
        (pss_one (ps_raise rfl (takes_of rfl rfl rfl rfl) (pmk_own PySem.F.excBase_ValueError T.xNoP T.gNoP T.kNoP (raises_own T.eNoP.hs T.tNoP) rfl))) pss_nil)
      pss_never)))), ?_⟩
    have hm := ht.most
    have hp0 := ht.pos
    refine ⟨_, rfl, a, TT, rfl, ha, ht, fun H1 s1 => ?_⟩
    refine ⟨_, rfl, rent, rfl, ?_⟩
    refine ⟨_, rfl, _, rfl, a, b, TT, g, rfl, ha.same s1, ht, s1 _ _ hb, hg, fun H2 s2 => ?_⟩
    have s12 := s1.trans s2
    obtain ⟨ts, hA, htl, _⟩ := ha.same s12
    refine ⟨_, rfl, _, rfl, true, rfl, iteF ?_⟩
    refine ⟨_, rfl, _, _, rfl, rfl, true, congrArg V.bl (decide_eq_true (by omega)), iteT ?_⟩
    refine ⟨_, rfl, a, _, rfl, .inl (SqL.of hA), _, _, rfl, rfl, true, ?_, iteF ?_⟩
    · rw [List.length_map, htl]
      exact congrArg V.bl (decide_eq_true (by omega))
    refine ⟨_, rfl, _, rfl, a, b, TT, g, rfl, ha.same s12, ht, s12 _ _ hb, hg, fun H3 s3 => ⟨fun e => absurd e hbar, fun around q hbar' nq hq => ?_⟩⟩
    exact ⟨_, rfl, iteT (k H3 (s12.trans s3))⟩
/-! ### _law_has_no_prices -/
def spHasNo : Sp := fun vs H Q _ => ∃ (a : Addr) (T : List (List Int)), vs = [.ref a] ∧ Tab H a T ∧ IsTab T ∧ T.length = 2 ∧ barring T [1, 0] ≠ none ∧ ∀ H', Same H H' → Q (.bl true) H'
abbrev nmHasNo : List Str := ["_law_table", "error"]
theorem scHasNo : FnScope nmHasNo ["_law_table"] (defScope sHasNo) := ⟨rfl, rfl, rfl, by decide +kernel, rfl, by decide +kernel, by decide +kernel⟩
theorem giving10 : Giving 2 [1, 0] := isGiv_iff.mp (by decide)
theorem giving01 : Giving 2 [0, 1] := isGiv_iff.mp (by decide)
abbrev tHasNoTry (K : PySem.W.Frag) (C : Addr) : WX → TS := fun W => tSeq (tDrop (tCallS (spBetweenX C) (WE W) (tCons (tVar 0) (tCons (tC (.int 0)) (tCons (tLst (tCons (tC (.int 1)) (tCons (tC (.int 0)) tNil))) (tCons (tC (.int 0)) tNil)))))) (tRet (tC (.bl false)))
abbrev tHasNoSuite (K : PySem.W.Frag) (C : Addr) : Addr → Value → Option Addr → TS := fun a cls d => fun D σ H => (cls = .ref C ∧ d = none) ∧ tRet (tCB (rIsE K C a) (tCons (tVar 1) (tCons (tC (.ref C)) tNil))) D σ H
theorem ok_hasNo (T : Txt K mg D) : Prom P w K mg base 5 D.hasNo ["_law_table"] spHasNo := by
  obtain ⟨fd, F⟩ := T.hasNo.fn
  obtain ⟨fdB, G, bB, kB⟩ := ok_betweenX (P := P) (w := w) (base := base) T
  refine ⟨⟨fd, ?_, F.binds fun _ _ _ _ _ _ us hl => match us, hl with | [_], _ => rfl⟩, F.kp⟩
  refine F.ok scHasNo (fun vs H Q E h => ?_) (fun cdv A outer s H vs Q E hr h => ?_)
  · obtain ⟨a, TT, rfl, _⟩ := h
    rfl
  · obtain ⟨a, TT, rfl, ha, ht, h2, hbar, k⟩ := h
    have nd := scHasNo.nd
    refine ⟨_, pss_one (ps_try_as (i := 1) (tb := tHasNoTry K D.cNoPrices) (ts := tHasNoSuite K D.cNoPrices) (Wout := fun _ _ _ _ => False) rfl rfl nd rfl rfl ⟨rfl, by decide, Or.inl T.gRoE⟩ takes0
      (fun W pn xe tk _ => pss_cons (ps_expr (pe_callS G hr rfl T.between.gl kB bB (fun σ => passAt tk σ) (pa_cons (pv 0) (pa_cons pe_int (pa_cons (pe_lst (pa_cons pe_int (pa_cons pe_int pa_nil))) (pa_cons pe_int pa_nil)))))) (pss_one (ps_ret pe_bl)))
      (fun a oe cls d pn hz hf => pss_if fun hcd => pss_one (ps_ret (pe_callB (call_isE (D := D.cNoPrices) T.eNoP (by rw [← hcd.1, ← hcd.2]; exact hz) hf) (by rfl) T.zIsi (by decide +kernel) (pa_cons (pv 1) (pa_cons (pe_glob (v := .ref D.cNoPrices) (by rfl) T.gNoP rfl) pa_nil)))))), ?_⟩
    refine ⟨_, rfl, by show 2 ≤ sizeLine; decide, fun l hl => ?_⟩
    have s1 := same_new (o := .lst [V.int 1, V.int 0]) hl
    refine ⟨a, l, TT, 0, [1, 0], 0, rfl, ha.same s1, ht, upd_same, by rw [h2]; exact giving10, by omega, hbar, fun H' s2 => ?_⟩
    refine ⟨true, T.mNoP, fun _ x hx => ⟨⟨rfl, rfl⟩, ?_⟩, fun q => nomatch q⟩
    exact ⟨_, rfl, .ref D.cNoPrices, .ref D.cNoPrices, true, rfl, fun u hu => hu, T.isNoP, k _ (s1.trans s2)⟩
end
end RP
namespace RP
open PySem PySem.Spec PyProof.Rows L2
section
variable {X : Cx} {k : Nat} {f : Addr} {sp : Sp} {x : Str} {p pos : Pos}
theorem pe_cl0 (G : Prom X.prog X.w X.K X.mg X.base k f [] sp) (hr : Room k X.A) (hm : X.mg x = some (.ref f)) (hg : Gl X x := by rfl) (hdb : (x == ("__debug__" : Str)) = false := by decide) : PE X (.Call (.Name x p) [] [] pos) (tCall sp [] E0 tNil) := by
  obtain ⟨⟨fd, F, b⟩, kp⟩ := G
  exact pe_call0 F hr hg hm kp b .nil pass0 hdb
end
theorem tabOf {H : Hp} {t : Addr} (rs : List (Addr × List Int)) (h : H t = some (.lst (rs.map fun z => V.ref z.1))) (hr : ∀ z ∈ rs, H z.1 = some (.lst (iv z.2))) : Tab H t (rs.map (·.2)) := by
  refine ⟨rs.map (·.1), by rw [h, List.map_map]; rfl, by rw [List.length_map, List.length_map], fun i r row h1 h2 => ?_⟩
  rw [List.getElem?_map] at h1 h2
  cases e : rs[i]? with
  | none => rw [e] at h1; cases h1
  | some z =>
    rw [e] at h1 h2
    cases h1
    cases h2
    exact hr z (List.mem_of_getElem? e)
theorem cutV_iv (ns : List Int) (lo hi : Option Int) : ∃ ms : List Int, cutV (iv ns) lo hi = iv ms := by
  unfold cutV
  rw [← List.map_drop, ← List.map_take]
  exact ⟨_, rfl⟩
theorem turned_giving {n : Nat} (h1 : 1 ≤ n) (h5 : n ≤ 5) : Giving n ((List.range n).map fun j => (j + 1) % n) := by
  have : n = 1 ∨ n = 2 ∨ n = 3 ∨ n = 4 ∨ n = 5 := by omega
  rcases this with rfl | rfl | rfl | rfl | rfl
  · exact isGiv_iff.mp (by decide)
  · exact isGiv_iff.mp (by decide)
  · exact isGiv_iff.mp (by decide)
  · exact isGiv_iff.mp (by decide)
  · exact isGiv_iff.mp (by decide)
section
variable {P : Program} {w : World} {K : PySem.W.Frag} {mg : Str → Option Value} {base : Heap} {D : Adr}
/-- i rows of n numbers, each a list of its own, in the list at d -/
def DrawnAt (H : Hp) (d : Addr) (n i : Nat) : Prop := ∃ rs : List (Addr × List Int), rs.length = i ∧ H d = some (.lst (rs.map fun z => V.ref z.1)) ∧ ∀ z ∈ rs, z.1 ≠ d ∧ H z.1 = some (.lst (iv z.2)) ∧ z.2.length = n
theorem DrawnAt.same {H H' : Hp} {d : Addr} {n i : Nat} (h : DrawnAt H d n i) (s : Same H H') : DrawnAt H' d n i := by
  obtain ⟨rs, h1, h2, h3⟩ := h
  exact ⟨rs, h1, s _ _ h2, fun z hz => ⟨(h3 z hz).1, s _ _ (h3 z hz).2.1, (h3 z hz).2.2⟩⟩
theorem DrawnAt.grown {H : Hp} {d L : Addr} {n i : Nat} {ms : List Int} (h : DrawnAt H d n i) (hL : H L = some (.lst (iv ms))) (hn : L ≠ d) (hm : ms.length = n) : ∃ xs, H d = some (.lst xs) ∧ xs.length = i ∧ DrawnAt (upd H d (.lst (xs ++ [V.ref L]))) d n (i + 1) := by
  obtain ⟨rs, h1, h2, h3⟩ := h
  refine ⟨_, h2, by rw [List.length_map, h1], rs ++ [(L, ms)], by rw [List.length_append, h1]; rfl, by rw [upd_same, List.map_append]; rfl, fun z hz => ?_⟩
  rcases List.mem_append.mp hz with hz | hz
  · obtain ⟨a, b, c⟩ := h3 z hz
    exact ⟨a, by rw [upd_ne a]; exact b, c⟩
  · rw [List.mem_singleton.mp hz]
    exact ⟨hn, by rw [upd_ne hn]; exact hL, hm⟩
theorem DrawnAt.tab {H : Hp} {d : Addr} {n : Nat} (h : DrawnAt H d n n) (h1 : 1 ≤ n) (h5 : n ≤ 5) : ∃ T : List (List Int), Tab H d T ∧ IsTab T ∧ T.length = n := by
  obtain ⟨rs, e1, e2, e3⟩ := h
  refine ⟨rs.map (·.2), tabOf rs e2 fun z hz => (e3 z hz).2.1, ⟨by rw [List.length_map]; omega, by rw [List.length_map]; omega, fun r hr => ?_⟩, by rw [List.length_map, e1]⟩
  obtain ⟨z, hz, rfl⟩ := List.mem_map.mp hr
  rw [List.length_map, e1]
  exact (e3 z hz).2.2
theorem isTab1 : IsTab [[0]] := ⟨by decide, by decide, by decide⟩
theorem isTab2 (a b c d : Int) : IsTab [[a, b], [c, d]] := ⟨by show 1 ≤ 2; decide, by show 2 ≤ 12; decide, fun r hr => by
  simp only [List.mem_cons, List.not_mem_nil, or_false] at hr
  rcases hr with rfl | rfl <;> rfl⟩
def spPromises : Sp := fun vs H Q _ => vs = [] ∧ ∀ H', Same H H' → Q (.bl true) H'
/-! ### law -/
def spLaw (K : PySem.W.Frag) : Sp := fun vs H Q _ => ∃ (a : Addr) (ns : List Int), vs = [.ref a] ∧ SqL K H a (iv ns) ∧ ns.length ≤ 63 ∧ ∀ H', Q (.bl true) H'
abbrev nmLaw : List Str := ["_law_script", "_law_whole", "_law_many", "_law_drawn", "_law_row", "_law_turned", "_law_at"]
theorem scLaw : FnScope nmLaw ["_law_script"] (defScope sLaw) := ⟨rfl, rfl, rfl, by decide +kernel, rfl, by decide +kernel, by decide +kernel⟩
theorem ok_lawF (T : Txt K mg D) (G0 : Prom P w K mg base 7 D.promises [] spPromises) {fd : FuncData} (F : Fun K "law" "law" sLaw D.law fd) : FnOk P w K mg base CX0 8 D.law fd ["_law_script"] (spLaw K) := by
  have G1 := (ok_number (P := P) (w := w) (base := base) T).mono (j := 7) (by decide)
  have G2 := (ok_tabRight (P := P) (w := w) (base := base) T).mono (j := 7) (by decide)
  refine F.ok scLaw (fun vs H Q E h => ?_) (fun cdv A outer s H vs Q E hr h => ?_)
  · obtain ⟨a, ns, rfl, _⟩ := h
    rfl
  · obtain ⟨a, ns, rfl, hS, hlen, k⟩ := h
    have nd := scLaw.nd
    have big : (64 : Nat) ≤ sizeLine := by decide
    refine ⟨_, pss_cons (ps_if (pt_not (pt_val (pe_cl0 G0 hr T.promises.gl))) (pss_one (ps_ret pe_bl)) pss_nil)
      (pss_cons (ps_set (i := 1) nd rfl (Or.inr rfl) (pe_callB call_abs (by rfl) T.zAbs (by decide +kernel) (pa_cons (pe_callB (cr_sum rfl) (by rfl) T.zSum (by decide +kernel) (pa_cons (pe_slice sl_list (pv 0) po_none (po_some pe_int)) pa_nil)) pa_nil)))
      (pss_cons (ps_asg (pe_tup (pa_cons (pe_op op_add pe_int (pe_op op_mod (pv 1) pe_int)) (pa_cons (pe_lst pa_nil) pa_nil))) (pg_tup rfl (pgs_cons (pg_name (i := 2) nd rfl (Or.inr rfl)) (pgs_cons (pg_name (i := 3) nd rfl (Or.inl rfl)) pgs_nil))))
      (pss_cons (ps_for PassesOwn.never rfl (pi_range1 (by rfl) T.zRange (pa_cons (pv 2) pa_nil)) (pg_name (i := 4) nd rfl (Or.inr rfl))
        (pss_one (ps_expr (pe_bm PySem.F.plainAttrs_list PySem.F.slot_list_append PySem.F.type_list_append mt_append (pv 3) (pa_cons (pe_lc (own := [("_law_at", 6)]) (g := gName 6) (tt := tYes) rfl nd (pi_range1 (by rfl) T.zRange (pa_cons (pv 2) pa_nil)) (blkOk_by (N := nmLaw) (sc := defScope sLaw) (by decide +kernel))
          (fun _ _ _ _ _ => pg_name (i := 6) nd rfl (Or.inl rfl)) (fun _ _ _ _ _ => pts_nil)
          (fun _ _ _ _ _ => pe_op op_sub (pe_op op_mod (pe_op op_fdiv (pe_callB call_abs (by rfl) T.zAbs (by decide +kernel) (pa_cons (pe_cl G1 hr T.number.gl (pa_cons (pv 1) (pa_cons (pv 6) (pa_cons (pv 4) pa_nil)))) pa_nil)) pe_int) pe_int) pe_int)) pa_nil)))))
      (pss_cons (ps_setLc (i := 5) (own := [("_law_at", 6)]) (g := gName 6) (tt := tYes) rfl nd rfl rfl (sw_true rfl rfl rfl (by decide +kernel)) (pi_range1 (by rfl) T.zRange (pa_cons (pv 2) pa_nil)) (blkOk_by (N := nmLaw) (sc := defScope sLaw) (by decide +kernel))
          (fun _ _ _ _ _ => pg_name (i := 6) nd rfl (Or.inl rfl)) (fun _ _ _ _ _ => pts_nil) (fun _ _ _ _ _ => pe_op op_mod (pe_op op_add (pv 6) pe_int) (pv 2)))
      (pss_cons (ps_if (PW.pt (pw_or (pt_not (pt_val (pe_cl G2 hr T.tabRight.gl (pa_cons (pv 3) (pa_cons (pe_op op_sub (pe_op op_mod (pv 1) pe_int) pe_int) (pa_cons (pv 5) pa_nil))))))
        (pw_or1 (pt_not (pt_val (pe_cl G2 hr T.tabRight.gl (pa_cons (pe_lst (pa_cons (pe_lst (pa_cons pe_int pa_nil)) pa_nil)) (pa_cons pe_int (pa_cons (pe_lst (pa_cons pe_int pa_nil)) pa_nil))))))))) (pss_one (ps_ret pe_bl)) pss_nil)
      (pss_one (ps_ret (pe_and (pe_cl G2 hr T.tabRight.gl (pa_cons (pe_lst (pa_cons (pe_lst (pa_cons pe_int (pa_cons pe_int pa_nil))) (pa_cons (pe_lst (pa_cons pe_int (pa_cons pe_int pa_nil))) pa_nil))) (pa_cons pe_int (pa_cons (pe_lst (pa_cons pe_int (pa_cons pe_int pa_nil))) pa_nil))))
        (pe_one (pe_cl G2 hr T.tabRight.gl (pa_cons (pe_lst (pa_cons (pe_lst (pa_cons pe_int (pa_cons pe_int pa_nil))) (pa_cons (pe_lst (pa_cons pe_int (pa_cons pe_int pa_nil))) pa_nil))) (pa_cons pe_int (pa_cons (pe_lst (pa_cons pe_int (pa_cons pe_int pa_nil))) pa_nil))))))))))))), ?_⟩
    -- the promises
    refine ⟨rfl, fun H1 s1 => ⟨true, rfl, iteF ?_⟩⟩
    -- whole
    refine ⟨_, rfl, _, rfl, a, _, rfl, s1.seq hS, fun p np => ?_⟩
    obtain ⟨ms, ems⟩ := cutV_iv ns none (some 63)
    refine ⟨p, ms, rfl, SqL.of (upd_same.trans (by rw [ems])), _, rfl, ?_⟩
    generalize upd H1 p (.lst (cutV (iv ns) none (some 63))) = H2
    have w0 : 0 ≤ (if ms.sum < 0 then -ms.sum else ms.sum) := by split <;> omega
    generalize (if ms.sum < 0 then -ms.sum else ms.sum) = whole at w0
    -- many, drawn
    refine ⟨_, rfl, _, _, rfl, rfl, (by show (0 : Int) < 5; decide), _, _, rfl, rfl, Nat.zero_le _, fun d hd => ⟨by show 2 ≤ sizeLine; omega, fun t ht => ⟨t, _, rfl, SqT.of upd_same, rfl, _, _, rfl, _, _, rfl, rfl, ?_⟩⟩⟩
    obtain ⟨n, en, n1, n5⟩ : ∃ n : Nat, 1 + whole % 5 = (n : Int) ∧ 1 ≤ n ∧ n ≤ 5 := ⟨(1 + whole % 5).toNat, by omega, by omega, by omega⟩
    have hd4 : upd (upd H2 d (.lst [])) t (.tup [V.int (1 + whole % 5), V.ref d]) d = some (.lst []) := same_new ht _ _ upd_same
    show tSeq _ _ _ (List.set (List.set _ 2 (some (V.int (1 + whole % 5)))) 3 _) (upd (upd H2 d (.lst [])) t (.tup [V.int (1 + whole % 5), V.ref d]))
    generalize upd (upd H2 d (.lst [])) t (.tup [V.int (1 + whole % 5), V.ref d]) = H4 at hd4
    rw [en]
    -- the rows
    refine ⟨_, rfl, _, rfl, by omega, by omega, for_range (lo := 0) (n := n) (fun i σ H' => ∃ (v4 : Option V), σ = [some (.ref a), some (.int whole), some (.int (n : Nat)), some (.ref d), v4, none, none] ∧ DrawnAt H' d n i) ⟨none, rfl, [], rfl, hd4, fun z hz => by cases hz⟩ ?_ ?_⟩
    · rintro i σ H5 hi ⟨v4, rfl, hD⟩
      rw [Int.zero_add]
      obtain ⟨rs, hrs, hds, _⟩ := id hD
      refine ⟨_, rfl, .inl ⟨rfl, _, SqL.of hds⟩, _, rfl, _, rfl, by omega, by omega, fun L nL => lc_range (lo := 0) (n := n) (fun j H' => Same H5 H' ∧ ∃ acc : List Int, acc.length = j ∧ H' L = some (.lst (iv acc))) ⟨same_new nL, [], rfl, upd_same⟩ ?_ ?_⟩
      · rintro j H6 hj ⟨s6, acc, hacc, hL⟩
        rw [Int.zero_add]
        refine ⟨rfl, _, rfl, _, rfl, _, rfl, whole, j, i, rfl, w0, by omega, by omega, fun z => ⟨_, rfl, _, _, rfl, rfl, ⟨by decide, by decide⟩, _, _, rfl, rfl, (by show (0 : Int) < 30; decide), _, _, rfl, rfl, iv acc, hL, ?_, ?_⟩⟩
        · rw [len_iv]
          exact small1000 (by omega)
        · exact ⟨samePut s6 nL, acc ++ [_], by rw [List.length_append, hacc]; rfl, by rw [upd_same, iv_app]⟩
      · rintro H6 ⟨s6, acc, hacc, hL⟩
        have hne : L ≠ d := (ne_of_none hds nL).symm
        obtain ⟨xs, e1, e2, e3⟩ := (hD.same s6).grown hL hne hacc
        exact ⟨d, xs, _, rfl, rfl, e1, small1000 (by omega), _, rfl, e3⟩
    · rintro σ H5 ⟨v4, rfl, hD⟩
      -- turned
      refine ⟨_, rfl, _, rfl, by omega, by omega, fun L nL => lc_range (lo := 0) (n := n) (fun j H' => Same H5 H' ∧ H' L = some (.lst ((nv ((List.range n).map fun j => (j + 1) % n)).take j))) ⟨same_new nL, upd_same⟩ ?_ ?_⟩
      · rintro j H6 hj ⟨s6, hL⟩
        rw [Int.zero_add]
        have e : ((j : Int) + 1) % (n : Int) = (((j + 1) % n : Nat) : Int) := by
          rw [Int.natCast_emod]
          rfl
        refine ⟨rfl, _, rfl, _, _, rfl, rfl, _, rfl, _, _, rfl, rfl, (by show (0 : Int) < (n : Int); omega), _, hL, take_lt (by omega), samePut s6 nL, ?_⟩
        rw [upd_same, take_nv (by rw [List.length_map, List.length_range]; exact hj)]
        have e2 : gN ((List.range n).map fun j => (j + 1) % n) j = (j + 1) % n := gD_mapR hj
        rw [e2, ← e]
      · rintro H6 ⟨s6, hL⟩
        rw [List.take_of_length_le (by rw [len_nv, List.length_map, List.length_range]; exact Nat.le_refl _)] at hL
        obtain ⟨TT, hT, hTT, hTn⟩ := (hD.same s6).tab n1 n5
        -- drawn
        refine ⟨_, rfl, _, rfl, _, _, rfl, rfl, (by show (0 : Int) < 99; decide), _, _, rfl, rfl, _, rfl, d, L, TT, _, _, rfl, hT, hTT, hL, by rw [hTn]; exact turned_giving n1 n5, fun H7 s7 => ⟨true, rfl, iteF ?_⟩⟩
        -- [[0]]
        refine ⟨by show 1 ≤ sizeLine; omega, fun r1 h1 => ⟨by show 1 ≤ sizeLine; omega, fun t1 h2 => ⟨by show 1 ≤ sizeLine; omega, fun g1 h3 => ?_⟩⟩⟩
        have sr := same_new (o := .lst [V.ref r1]) h2
        have sg := same_new (o := .lst [V.int 0]) h3
        refine ⟨t1, g1, [[0]], 0, [0], rfl, tabOf [(r1, [0])] (sg _ _ upd_same) (fun z hz => ?_), isTab1, upd_same, isGiv_iff.mp (by decide), fun H8 s8 => ⟨true, rfl, iteF ?_⟩⟩
        · rw [List.mem_singleton.mp hz]
          exact sg _ _ (sr _ _ upd_same)
        -- [[0, 1], [1, 0]]
        refine ⟨by show 2 ≤ sizeLine; omega, fun r1 h1 => ⟨by show 2 ≤ sizeLine; omega, fun r2 h2 => ⟨by show 2 ≤ sizeLine; omega, fun t2 h3 => ⟨by show 2 ≤ sizeLine; omega, fun g2 h4 => ?_⟩⟩⟩⟩
        have x2 := same_new (o := .lst [V.int 1, V.int 0]) h2
        have x3 := same_new (o := .lst [V.ref r1, V.ref r2]) h3
        have x4 := same_new (o := .lst [V.int 0, V.int 1]) h4
        refine ⟨t2, g2, [[0, 1], [1, 0]], 1, [0, 1], rfl, tabOf [(r1, [0, 1]), (r2, [1, 0])] (x4 _ _ upd_same) (fun z hz => ?_), isTab2 _ _ _ _, upd_same, giving01, fun H9 s9 => ⟨true, rfl, iteT ?_⟩⟩
        · simp only [List.mem_cons, List.not_mem_nil, or_false] at hz
          rcases hz with rfl | rfl
          · exact x4 _ _ (x3 _ _ (x2 _ _ upd_same))
          · exact x4 _ _ (x3 _ _ upd_same)
        -- [[5, 5], [5, 5]]
        refine ⟨by show 2 ≤ sizeLine; omega, fun r1 h1 => ⟨by show 2 ≤ sizeLine; omega, fun r2 h2 => ⟨by show 2 ≤ sizeLine; omega, fun t2 h3 => ⟨by show 2 ≤ sizeLine; omega, fun g2 h4 => ?_⟩⟩⟩⟩
        have x2 := same_new (o := .lst [V.int 5, V.int 5]) h2
        have x3 := same_new (o := .lst [V.ref r1, V.ref r2]) h3
        have x4 := same_new (o := .lst [V.int 1, V.int 0]) h4
        refine ⟨t2, g2, [[5, 5], [5, 5]], 7, [1, 0], rfl, tabOf [(r1, [5, 5]), (r2, [5, 5])] (x4 _ _ upd_same) (fun z hz => ?_), isTab2 _ _ _ _, upd_same, giving10, fun H10 s10 => k _⟩
        simp only [List.mem_cons, List.not_mem_nil, or_false] at hz
        rcases hz with rfl | rfl
        · exact x4 _ _ (x3 _ _ (x2 _ _ upd_same))
        · exact x4 _ _ (x3 _ _ upd_same)
end
end RP
namespace RP
open PySem PySem.Spec PyProof.Rows L2
/-! ### a statement by what holds ahead of it and behind it -/
def Does (X : Cx) (st : Stmt) (Pre Post : L2.St → Hp → Prop) : Prop := ∃ t : TS, PS X st t ∧ ∀ (D : Ends) (σ : L2.St) (H : Hp), Pre σ H → (∀ σ' H', Post σ' H' → D.nx σ' H') → t D σ H
def DoesR (X : Cx) (sts : List Stmt) (Pre : L2.St → Hp → Prop) (R : V → Hp → Prop) : Prop := ∃ t : TS, PSs X sts t ∧ ∀ (D : Ends) (σ : L2.St) (H : Hp), Pre σ H → (∀ v H', R v H' → D.rt v H') → t D σ H
theorem Does.next {X : Cx} {st : Stmt} {rest : List Stmt} {Pre Mid : L2.St → Hp → Prop} {R : V → Hp → Prop} (h : Does X st Pre Mid) (g : DoesR X rest Mid R) : DoesR X (st :: rest) Pre R := by
  obtain ⟨t, h1, h2⟩ := h
  obtain ⟨u, g1, g2⟩ := g
  exact ⟨_, pss_cons h1 g1, fun D σ H p r => h2 { D with nx := u D } σ H p fun σ' H' m => g2 D σ' H' m r⟩
/-! ### displays -/
def ItemsRd {α : Type} (I : Hp → V → α → Prop) (σ : L2.St) (H0 : Hp) (tl : TA) (cs : List α) : Prop := ∀ (H : Hp) (Q : List V → Hp → Prop), Same H0 H → (∀ H' xs, Same H H' → Paired (I H') xs cs → Q xs H') → tl σ H Q
theorem items_nil {α : Type} {I : Hp → V → α → Prop} {σ : L2.St} {H0 : Hp} : ItemsRd I σ H0 tNil [] := fun H Q _ k => k H [] (Same.refl H) .nil
theorem items_cons {α : Type} {I : Hp → V → α → Prop} (hs : ∀ H H' x c, Same H H' → I H x c → I H' x c) {σ : L2.St} {H0 : Hp} {t1 : TE} {tl : TA} {c : α} {cs : List α}
    (h : ∀ (H : Hp) (Q : VK), Same H0 H → (∀ H' x, Same H H' → I H' x c → Q x H') → t1 σ H Q) (r : ItemsRd I σ H0 tl cs) : ItemsRd I σ H0 (tCons t1 tl) (c :: cs) := fun H Q s0 k =>
  h H _ s0 fun H1 x s1 hx => r H1 _ (s0.trans s1) fun H2 xs s2 hxs => k H2 (x :: xs) (s1.trans s2) (.cons (hs _ _ _ _ s2 hx) hxs)
theorem items_lst {α : Type} {I : Hp → V → α → Prop} (hs : ∀ H H' x c, Same H H' → I H x c → I H' x c) {σ : L2.St} {H : Hp} {tl : TA} {cs : List α} {Q : VK} (r : ItemsRd I σ H tl cs) (hn : cs.length ≤ 100)
    (k : ∀ H' l xs, Same H H' → H' l = some (.lst xs) → Paired (I H') xs cs → Q (.ref l) H') : tLst tl σ H Q := by
  refine r H _ (Same.refl H) fun H1 xs s1 hx => ⟨?_, fun l hl => ?_⟩
  · rw [Paired.length hx]
    exact Nat.le_of_lt (small1000 (by omega))
  · have s2 := same_new (o := .lst xs) hl
    refine k _ l xs (s1.trans s2) upd_same ?_
    exact Paired.mapP hx fun a b z => hs _ _ _ _ s2 z
theorem paired_get {α β : Type} {R : α → β → Prop} : ∀ {xs : List α} {cs : List β} {i : Nat} {x : α}, Paired R xs cs → xs[i]? = some x → ∃ c, cs[i]? = some c ∧ R x c
  | _, _, i, _, .nil, h => by simp at h
  | _, _, 0, _, .cons r _, h => ⟨_, rfl, by rw [← Option.some.inj h]; exact r⟩
  | _, _, i + 1, _, .cons _ t, h => paired_get (i := i) t h
/-- a list of whole numbers -/
theorem rd_ints {tl : TA} (ns : List Int) {σ : L2.St} {H : Hp} {Q : VK} (hl : ∀ (Q : List V → Hp → Prop), Q (iv ns) H → tl σ H Q) (hn : ns.length ≤ 100) (k : ∀ H' l, Same H H' → H' l = some (.lst (iv ns)) → Q (.ref l) H') : tLst tl σ H Q :=
  hl _ ⟨by rw [len_iv]; exact Nat.le_of_lt (small1000 (by omega)), fun l h => k _ l (same_new h) upd_same⟩
def RowI (H : Hp) (x : V) (ns : List Int) : Prop := ∃ l, x = .ref l ∧ H l = some (.lst (iv ns))
theorem RowI.s (H H' : Hp) (x : V) (ns : List Int) (s : Same H H') (h : RowI H x ns) : RowI H' x ns := by
  obtain ⟨l, e, h⟩ := h
  exact ⟨l, e, s _ _ h⟩
theorem row_rd {σ : L2.St} {H0 : Hp} {tl : TA} (ns : List Int) (hl : ∀ (H : Hp) (Q : List V → Hp → Prop), Q (iv ns) H → tl σ H Q) (hn : ns.length ≤ 100) : ∀ (H : Hp) (Q : VK), Same H0 H → (∀ H' x, Same H H' → RowI H' x ns → Q x H') → tLst tl σ H Q :=
  fun H Q _ k => rd_ints ns (hl H) hn fun H' l s e => k H' _ s ⟨l, rfl, e⟩
theorem tab_of_rows {H : Hp} {t : Addr} {xs : List V} {T : List (List Int)} (h : H t = some (.lst xs)) (r : Paired (RowI H) xs T) : Tab H t T := by
  have key : ∀ {xs : List V} {T : List (List Int)}, Paired (RowI H) xs T → ∃ rs : List (Addr × List Int), xs = rs.map (fun z => V.ref z.1) ∧ T = rs.map (·.2) ∧ ∀ z ∈ rs, H z.1 = some (.lst (iv z.2)) := by
    intro xs T r
    induction r with
    | nil => exact ⟨[], rfl, rfl, fun z hz => by cases hz⟩
    | cons a _ ih =>
      obtain ⟨l, rfl, hl⟩ := a
      obtain ⟨rs, rfl, rfl, h3⟩ := ih
      refine ⟨(l, _) :: rs, rfl, rfl, fun z hz => ?_⟩
      rcases List.mem_cons.mp hz with rfl | hz
      · exact hl
      · exact h3 z hz
  obtain ⟨rs, rfl, rfl, h3⟩ := key r
  exact tabOf rs h h3
/-- a table -/
theorem rd_tab {σ : L2.St} {H : Hp} {tl : TA} {T : List (List Int)} {Q : VK} (r : ItemsRd RowI σ H tl T) (hn : T.length ≤ 100) (k : ∀ H' t, Same H H' → Tab H' t T → Q (.ref t) H') : tLst tl σ H Q :=
  items_lst RowI.s r hn fun H' l xs s e p => k H' l s (tab_of_rows e p)
theorem rows_cons {σ : L2.St} {H0 : Hp} {t1 tl : TA} {T : List (List Int)} (ns : List Int) (hl : ∀ (H : Hp) (Q : List V → Hp → Prop), Q (iv ns) H → t1 σ H Q) (hn : ns.length ≤ 100) (r : ItemsRd RowI σ H0 tl T) : ItemsRd RowI σ H0 (tCons (tLst t1) tl) (ns :: T) :=
  items_cons RowI.s (row_rd ns hl hn) r
abbrev T1 : List (List Int) := [[5, 1], [2, 2]]
abbrev T2 : List (List Int) := [[3, 3], [3, 3]]
abbrev T3 : List (List Int) := [[0, 9, 0], [0, 0, 9], [9, 0, 0]]
theorem isT1 : IsTab T1 := isTab2 _ _ _ _
theorem isT2 : IsTab T2 := isTab2 _ _ _ _
theorem isT3 : IsTab T3 := ⟨by decide, by decide, by decide⟩
theorem isT4 (z : Int) : IsTab [[z]] := ⟨by show 1 ≤ 1; decide, by show 1 ≤ 12; decide, fun r hr => by
  rw [List.mem_singleton.mp hr]
  rfl⟩
theorem isT0 : IsTab [[0, 0, 0], [0, 0, 0], [0, 0, 0]] := ⟨by decide, by decide, by decide⟩
theorem giving0 : Giving 1 [0] := isGiv_iff.mp (by decide)
theorem giving012 : Giving 3 [0, 1, 2] := isGiv_iff.mp (by decide)
theorem nv_of {H : Hp} {l : Addr} {ms : List Int} {ns : List Nat} (h : H l = some (.lst (iv ms))) (e : ms = zi ns) : H l = some (.lst (nv ns)) := by
  subst e
  rw [nv_iv]
  exact h
/-! ### cases: people and a truth; a table and a rent; a rent, prices and a truth -/
def CaseP (H : Hp) (x : V) (c : List Nat × Bool) : Prop := ∃ t l, x = .ref t ∧ H t = some (.tup [.ref l, .bl c.2]) ∧ H l = some (.lst (nv c.1))
theorem CaseP.s (H H' : Hp) (x : V) (c : List Nat × Bool) (s : Same H H') (h : CaseP H x c) : CaseP H' x c := by
  obtain ⟨t, l, e, h1, h2⟩ := h
  exact ⟨t, l, e, s _ _ h1, s _ _ h2⟩
theorem caseP_rd {σ : L2.St} {H0 : Hp} {tl : TA} (c : List Nat × Bool) (hl : ∀ (H : Hp) (Q : List V → Hp → Prop), Q (iv (zi c.1)) H → tl σ H Q) (hn : c.1.length ≤ 100) :
    ∀ (H : Hp) (Q : VK), Same H0 H → (∀ H' x, Same H H' → CaseP H' x c → Q x H') → tTup (tCons (tLst tl) (tCons (tC (.bl c.2)) tNil)) σ H Q := by
  intro H Q _ k
  show tLst tl σ H fun x H1 => [x, V.bl c.2].length ≤ sizeLine ∧ ∀ p, H1 p = none → Q (.ref p) (upd H1 p (.tup [x, V.bl c.2]))
  refine rd_ints (zi c.1) (hl H) (by rw [List.length_map]; exact hn) fun H1 l s1 h1 => ⟨by show 2 ≤ sizeLine; decide, fun t ht => ?_⟩
  have s2 := same_new (o := .tup [V.ref l, V.bl c.2]) ht
  exact k _ _ (s1.trans s2) ⟨t, l, rfl, upd_same, s2 _ _ (nv_of h1 rfl)⟩
def CaseT (H : Hp) (x : V) (c : List (List Int) × Int) : Prop := ∃ t a, x = .ref t ∧ H t = some (.tup [.ref a, .int c.2]) ∧ Tab H a c.1
theorem CaseT.s (H H' : Hp) (x : V) (c : List (List Int) × Int) (s : Same H H') (h : CaseT H x c) : CaseT H' x c := by
  obtain ⟨t, a, e, h1, h2⟩ := h
  exact ⟨t, a, e, s _ _ h1, h2.same s⟩
theorem caseT_rd {σ : L2.St} {H0 : Hp} {ta tb : TE} (c : List (List Int) × Int) (ha : ∀ (H : Hp) (Q : VK), Same H0 H → (∀ H' a, Same H H' → Tab H' a c.1 → Q (.ref a) H') → ta σ H Q) (hb : ∀ (H : Hp) (Q : VK), Q (.int c.2) H → tb σ H Q) :
    ∀ (H : Hp) (Q : VK), Same H0 H → (∀ H' x, Same H H' → CaseT H' x c → Q x H') → tTup (tCons ta (tCons tb tNil)) σ H Q := by
  intro H Q s0 k
  refine ha H _ s0 fun H1 a s1 h1 => hb H1 _ ⟨by show 2 ≤ sizeLine; decide, fun t ht => ?_⟩
  have s2 := same_new (o := .tup [V.ref a, V.int c.2]) ht
  exact k _ _ (s1.trans s2) ⟨t, a, rfl, upd_same, h1.same s2⟩
def CaseF (H : Hp) (x : V) (c : Int × List Int × Bool) : Prop := ∃ t l, x = .ref t ∧ H t = some (.tup [.int c.1, .ref l, .bl c.2.2]) ∧ H l = some (.lst (iv c.2.1))
theorem CaseF.s (H H' : Hp) (x : V) (c : Int × List Int × Bool) (s : Same H H') (h : CaseF H x c) : CaseF H' x c := by
  obtain ⟨t, l, e, h1, h2⟩ := h
  exact ⟨t, l, e, s _ _ h1, s _ _ h2⟩
theorem caseF_rd {σ : L2.St} {H0 : Hp} {ta : TE} {tl : TA} (c : Int × List Int × Bool) (ha : ∀ (H : Hp) (Q : VK), Q (.int c.1) H → ta σ H Q) (hl : ∀ (H : Hp) (Q : List V → Hp → Prop), Q (iv c.2.1) H → tl σ H Q) (hn : c.2.1.length ≤ 100) :
    ∀ (H : Hp) (Q : VK), Same H0 H → (∀ H' x, Same H H' → CaseF H' x c → Q x H') → tTup (tCons ta (tCons (tLst tl) (tCons (tC (.bl c.2.2)) tNil))) σ H Q := by
  intro H Q _ k
  refine ha H _ (rd_ints c.2.1 (hl H) hn fun H1 l s1 h1 => ⟨by show 3 ≤ sizeLine; decide, fun t ht => ?_⟩)
  have s2 := same_new (o := .tup [V.int c.1, V.ref l, V.bl c.2.2]) ht
  exact k _ _ (s1.trans s2) ⟨t, l, rfl, upd_same, s2 _ _ h1⟩
/-! ### reading by values: from any later heap, the value and what holds of it -/
theorem paired_app {α β : Type} {R : α → β → Prop} : ∀ {xs ys : List α} {cs ds : List β}, Paired R xs cs → Paired R ys ds → Paired R (xs ++ ys) (cs ++ ds)
  | _, _, _, _, .nil, h => h
  | _, _, _, _, .cons r t, h => .cons r (paired_app t h)
def RdA (σ : L2.St) (H : Hp) (t : TE) (R : V → Hp → Prop) : Prop := ∀ H1, Same H H1 → ∀ Q : VK, (∀ x H', Same H1 H' → R x H' → Q x H') → t σ H1 Q
def TtA (σ : L2.St) (H : Hp) (t : TT) (b : Bool) : Prop := ∀ H1, Same H H1 → ∀ Q : Bool → Hp → Prop, (∀ H', Same H1 H' → Q b H') → t σ H1 Q
def IsV (v : V) : V → Hp → Prop := fun x _ => x = v
def IsI (ns : List Int) : V → Hp → Prop := fun x H => ∃ l, x = .ref l ∧ H l = some (.lst (iv ns))
def IsN (ns : List Nat) : V → Hp → Prop := fun x H => ∃ l, x = .ref l ∧ H l = some (.lst (nv ns))
def IsTb (T : List (List Int)) : V → Hp → Prop := fun x H => ∃ a, x = .ref a ∧ Tab H a T
def IsPr (C : Addr) (ps : List Int) : V → Hp → Prop := fun x H => ∃ p, x = .ref p ∧ PrAt C H p ps
def IsRi (C : Addr) (g : List Nat) : V → Hp → Prop := fun x H => ∃ p, x = .ref p ∧ RiAt C H p g
def IsSe (C : Addr) (g : List Nat) (ps : List Int) : V → Hp → Prop := fun x H => ∃ p, x = .ref p ∧ SeAt C H p g ps
def IsTd (D : Adr) (t : Told) : V → Hp → Prop := fun x H => ∃ p, x = .ref p ∧ ToldAt D H p t
def IsPair (i j : Int) : V → Hp → Prop := fun x H => ∃ p, x = .ref p ∧ H p = some (.tup [.int i, .int j])
section
variable {D : Adr} {K : PySem.W.Frag} {mg : Str → Option Value} {σ : L2.St} {H : Hp} {t t1 t2 t3 t4 : TE} {tl : TA}
theorem rda_same {H' : Hp} {R : V → Hp → Prop} (r : RdA σ H t R) (s : Same H H') : RdA σ H' t R := fun H1 s1 => r H1 (s.trans s1)
theorem rda_var {i : Nat} {v : V} (h : σ[i]? = some (some v)) : RdA σ H (tVar i) (IsV v) := fun H1 _ Q k => ⟨v, h, k v H1 (Same.refl H1) rfl⟩
theorem rda_c {v : V} : RdA σ H (tC v) (IsV v) := fun H1 _ Q k => k v H1 (Same.refl H1) rfl
theorem rda_neg {z y : Int} (e : -z = y) : RdA σ H (tUn (rU fun i => .int (-i)) (tC (.int z))) (IsV (.int y)) := fun H1 _ Q k => ⟨z, rfl, k _ H1 (Same.refl H1) (by rw [← e]; rfl)⟩
theorem rda_ints (ns : List Int) (hl : ∀ (H : Hp) (Q : List V → Hp → Prop), Q (iv ns) H → tl σ H Q) (hn : ns.length ≤ 100) : RdA σ H (tLst tl) (IsI ns) := fun H1 _ Q k =>
  rd_ints ns (hl H1) hn fun H' l s e => k _ H' s ⟨l, rfl, e⟩
theorem rda_nats (ns : List Nat) (hl : ∀ (H : Hp) (Q : List V → Hp → Prop), Q (iv (zi ns)) H → tl σ H Q) (hn : ns.length ≤ 100) : RdA σ H (tLst tl) (IsN ns) := fun H1 _ Q k =>
  rd_ints (zi ns) (hl H1) (by rw [List.length_map]; exact hn) fun H' l s e => k _ H' s ⟨l, rfl, nv_of e rfl⟩
theorem rda_vtab {i : Nat} {a : Addr} {T : List (List Int)} (h : σ[i]? = some (some (.ref a))) (ha : Tab H a T) : RdA σ H (tVar i) (IsTb T) := fun H1 s Q k => ⟨_, h, k _ H1 (Same.refl H1) ⟨a, rfl, ha.same s⟩⟩
theorem rda_vints {i : Nat} {a : Addr} {ns : List Int} (h : σ[i]? = some (some (.ref a))) (ha : H a = some (.lst (iv ns))) : RdA σ H (tVar i) (IsI ns) := fun H1 s Q k => ⟨_, h, k _ H1 (Same.refl H1) ⟨a, rfl, s _ _ ha⟩⟩
theorem rda_vnats {i : Nat} {a : Addr} {ns : List Nat} (h : σ[i]? = some (some (.ref a))) (ha : H a = some (.lst (nv ns))) : RdA σ H (tVar i) (IsN ns) := fun H1 s Q k => ⟨_, h, k _ H1 (Same.refl H1) ⟨a, rfl, s _ _ ha⟩⟩
theorem rda_tab {T : List (List Int)} (r : ∀ H1, Same H H1 → ItemsRd RowI σ H1 tl T) (hn : T.length ≤ 100) : RdA σ H (tLst tl) (IsTb T) := fun H1 s Q k =>
  rd_tab (r H1 s) hn fun H' t s e => k _ H' s ⟨t, rfl, e⟩
theorem rda_len {R : Nat} {T : List (List Int)} (r : RdA σ H t (IsTb T)) (e : T.length = R) : RdA σ H (tCB (rLenK K) (tCons t tNil)) (IsV (.int (R : Nat))) := fun H1 s1 Q k => r H1 s1 _ fun x H2 s2 ⟨a, e1, ha⟩ => by
  obtain ⟨rs, hA, hl, _⟩ := ha
  refine ⟨a, _, by rw [e1], .inl (SqL.of hA), k _ _ s2 ?_⟩
  rw [List.length_map, hl, e]
  rfl
/-! the program's defs -/
theorem rda_worth {T : List (List Int)} {g : List Nat} (r1 : RdA σ H t1 (IsTb T)) (r2 : RdA σ H t2 (IsN g)) (ht : IsTab T) (hg : Giving T.length g) : RdA σ H (tCall spWorth [] E0 (tCons t1 (tCons t2 tNil))) (IsV (.int (worth T g))) := fun H1 s1 Q k =>
  r1 H1 s1 _ fun x H2 s2 ⟨a, e1, ha⟩ => r2 H2 (s1.trans s2) _ fun y H3 s3 ⟨b, e2, hb⟩ => ⟨a, b, T, g, by rw [e1, e2]; rfl, ha.same s3, ht, hb, hg, fun H4 s4 => k _ H4 (s2.trans (s3.trans s4)) rfl⟩
theorem rda_most {T : List (List Int)} (r1 : RdA σ H t1 (IsTb T)) (ht : IsTab T) : RdA σ H (tCall spMost [] E0 (tCons t1 tNil)) (IsV (.int (most T))) := fun H1 s1 Q k =>
  r1 H1 s1 _ fun x H2 s2 ⟨a, e1, ha⟩ => ⟨a, T, by rw [e1]; rfl, ha, ht, fun H4 s4 => k _ H4 (s2.trans s4) rfl⟩
theorem rda_fit {T : List (List Int)} {rent : Int} {g : List Nat} {ps : List Int} (r1 : RdA σ H t1 (IsTb T)) (r2 : RdA σ H t2 (IsV (.int rent))) (r3 : RdA σ H t3 (IsN g)) (r4 : RdA σ H t4 (IsI ps)) (ht : IsTab T) (hg : Giving T.length g) (hp : ps.length = T.length) :
    RdA σ H (tCall spFit [] E0 (tCons t1 (tCons t2 (tCons t3 (tCons t4 tNil))))) (IsV (.bl (areFit T rent g ps))) := fun H1 s1 Q k =>
  r1 H1 s1 _ fun x H2 s2 ⟨a, e1, ha⟩ => r2 H2 (s1.trans s2) _ fun y H3 s3 e2 => r3 H3 (s1.trans (s2.trans s3)) _ fun z H4 s4 ⟨b, e3, hb⟩ => r4 H4 (s1.trans (s2.trans (s3.trans s4))) _ fun u H5 s5 ⟨c, e4, hc⟩ =>
    ⟨a, b, c, T, rent, g, ps, by rw [e1, show y = V.int rent from e2, e3, e4]; rfl, ha.same (s3.trans (s4.trans s5)), ht, s5 _ _ hb, hg, hc, hp, fun H6 s6 => k _ H6 (s2.trans (s3.trans (s4.trans (s5.trans s6)))) rfl⟩
theorem rda_between {T : List (List Int)} {rent : Int} {g : List Nat} (room : Nat) {i j : Int} (r1 : RdA σ H t1 (IsTb T)) (r2 : RdA σ H t2 (IsV (.int rent))) (r3 : RdA σ H t3 (IsN g)) (r4 : RdA σ H t4 (IsV (.int (room : Nat)))) (ht : IsTab T) (hg : Giving T.length g) (hr : room < T.length) (hb : barring T g = none)
    (e1 : least T rent g room = i) (e2 : greatest T rent g room = j) : RdA σ H (tCall spBetween [] E0 (tCons t1 (tCons t2 (tCons t3 (tCons t4 tNil))))) (IsPair i j) := fun H1 s1 Q k =>
  r1 H1 s1 _ fun x H2 s2 ⟨a, f1, ha⟩ => r2 H2 (s1.trans s2) _ fun y H3 s3 f2 => r3 H3 (s1.trans (s2.trans s3)) _ fun z H4 s4 ⟨b, f3, hB⟩ => r4 H4 (s1.trans (s2.trans (s3.trans s4))) _ fun u H5 s5 f4 =>
    ⟨a, b, T, rent, g, room, by rw [f1, show y = V.int rent from f2, f3, show u = V.int (room : Nat) from f4]; rfl, ha.same (s3.trans (s4.trans s5)), ht, s5 _ _ hB, hg, hr, hb, fun H6 p s6 _ hp => k _ H6 (s2.trans (s3.trans (s4.trans (s5.trans s6)))) ⟨p, rfl, by rw [hp, e1, e2]⟩⟩
theorem rda_told {T : List (List Int)} {rent : Int} {g : List Nat} (r1 : RdA σ H t1 (IsTb T)) (r2 : RdA σ H t2 (IsV (.int rent))) (r3 : RdA σ H t3 (IsN g)) (ht : IsTab T) (hg : Giving T.length g) : RdA σ H (tCall (spTold D) [] E0 (tCons t1 (tCons t2 (tCons t3 tNil)))) (IsTd D (told T rent g)) := fun H1 s1 Q k =>
  r1 H1 s1 _ fun x H2 s2 ⟨a, f1, ha⟩ => r2 H2 (s1.trans s2) _ fun y H3 s3 f2 => r3 H3 (s1.trans (s2.trans s3)) _ fun z H4 s4 ⟨b, f3, hB⟩ =>
    ⟨a, b, T, rent, g, by rw [f1, show y = V.int rent from f2, f3]; rfl, ha.same (s3.trans s4), ht, hB, hg, fun H6 p s6 hp => k _ H6 (s2.trans (s3.trans (s4.trans s6))) ⟨p, rfl, hp⟩⟩
theorem rda_settled {T : List (List Int)} {rent : Int} (r1 : RdA σ H t1 (IsTb T)) (r2 : RdA σ H t2 (IsV (.int rent))) (ht : IsTab T) : RdA σ H (tCall (spSettled D.cSe) [] E0 (tCons t1 (tCons t2 tNil))) (IsSe D.cSe (best T) (pricesOf T rent (best T))) := fun H1 s1 Q k =>
  r1 H1 s1 _ fun x H2 s2 ⟨a, f1, ha⟩ => r2 H2 (s1.trans s2) _ fun y H3 s3 f2 => ⟨a, T, rent, by rw [f1, show y = V.int rent from f2]; rfl, ha.same s3, ht, fun H6 p s6 hp => k _ H6 (s2.trans (s3.trans s6)) ⟨p, rfl, hp⟩⟩
/-! making answers -/
theorem made_keep {H : Hp} {x dx C : Addr} (nx : H x = none) (nd : H dx = none) {b : Addr} {u : HO} (e : H b = some u) : upd (upd H dx (.own x)) x (.ins C dx []) b = some u := by
  rw [upd_ne (ne_of_none e nx), upd_ne (ne_of_none e nd)]
  exact e
theorem rda_mkPr {ps : List Int} (r : RdA σ H t (IsI ps)) : RdA σ H (tMake D.cPr (spPrInit D.cPr) [] E0 (tCons t tNil)) (IsPr D.cPr ps) := fun H1 s1 Q k =>
  r H1 s1 _ fun x H2 s2 ⟨l, e, hl⟩ => fun q dx nq nd _ => ⟨q, l, dx, ps, by rw [e]; rfl, upd_same, made_keep nq nd hl, fun H3 kp hp => ⟨rfl, k _ H3 (s2.trans (Kept.same nq nd kp)) ⟨q, rfl, hp⟩⟩⟩
theorem rda_mkRi {g : List Nat} (r : RdA σ H t (IsN g)) : RdA σ H (tMake D.cRi (spRiInit D.cRi) [] E0 (tCons t tNil)) (IsRi D.cRi g) := fun H1 s1 Q k =>
  r H1 s1 _ fun x H2 s2 ⟨l, e, hl⟩ => fun q dx nq nd _ => ⟨q, l, dx, g, by rw [e]; rfl, upd_same, made_keep nq nd hl, fun H3 kp hp => ⟨rfl, k _ H3 (s2.trans (Kept.same nq nd kp)) ⟨q, rfl, hp⟩⟩⟩
theorem rda_mkSe {g : List Nat} {ps : List Int} (r1 : RdA σ H t1 (IsN g)) (r2 : RdA σ H t2 (IsI ps)) : RdA σ H (tMake D.cSe (spSeInit D.cSe) [] E0 (tCons t1 (tCons t2 tNil))) (IsSe D.cSe g ps) := fun H1 s1 Q k =>
  r1 H1 s1 _ fun x H2 s2 ⟨l, e, hl⟩ => r2 H2 (s1.trans s2) _ fun y H3 s3 ⟨m, e2, hm⟩ => fun q dx nq nd _ => ⟨q, l, m, dx, g, ps, by rw [e, e2]; rfl, upd_same, made_keep nq nd (s3 _ _ hl), made_keep nq nd hm, fun H4 kp hp => ⟨rfl, k _ H4 (s2.trans (s3.trans (Kept.same nq nd kp))) ⟨q, rfl, hp⟩⟩⟩
/-! asking answers -/
theorem rda_prShows {ps : List Int} {T : List (List Int)} {rent : Int} {g : List Nat} (r : RdA σ H t (IsPr D.cPr ps)) (r1 : RdA σ H t1 (IsTb T)) (r2 : RdA σ H t2 (IsV (.int rent))) (r3 : RdA σ H t3 (IsN g)) (ht : IsTab T) (hg : Giving T.length g) (hp : ps.length = T.length) :
    RdA σ H (tMeth D.cPr "shows" (spPrShows D.cPr) [] E0 t (tCons t1 (tCons t2 (tCons t3 tNil)))) (IsV (.bl (areFit T rent g ps))) := fun H1 s1 Q k =>
  r H1 s1 _ fun x H2 s2 ⟨q, e, hq⟩ => by
    obtain ⟨dx, l, h1, h2⟩ := id hq
    refine ⟨q, dx, _, e, h1, fPr_no l sh_pr, r1 H2 (s1.trans s2) _ fun y H3 s3 ⟨a, f1, ha⟩ => r2 H3 (s1.trans (s2.trans s3)) _ fun z H4 s4 f2 => r3 H4 (s1.trans (s2.trans (s3.trans s4))) _ fun u H5 s5 ⟨b, f3, hb⟩ => ?_⟩
    exact ⟨q, a, b, ps, T, rent, g, by rw [e, f1, show z = V.int rent from f2, f3]; rfl, hq.same (s3.trans (s4.trans s5)), ha.same (s4.trans s5), ht, hb, hg, hp, fun H6 s6 => k _ H6 (s2.trans (s3.trans (s4.trans (s5.trans s6)))) rfl⟩
theorem rda_riShows {p : List Nat} {T : List (List Int)} {rent : Int} {g : List Nat} (r : RdA σ H t (IsRi D.cRi p)) (r1 : RdA σ H t1 (IsTb T)) (r2 : RdA σ H t2 (IsV (.int rent))) (r3 : RdA σ H t3 (IsN g)) (ht : IsTab T) (hg : Giving T.length g) (hp : p.length ≤ 100) :
    RdA σ H (tMeth D.cRi "shows" (spRiShows D.cRi) [] E0 t (tCons t1 (tCons t2 (tCons t3 tNil)))) (IsV (.bl (ringShows T g p))) := fun H1 s1 Q k =>
  r H1 s1 _ fun x H2 s2 ⟨q, e, hq⟩ => by
    obtain ⟨dx, l, h1, h2⟩ := id hq
    refine ⟨q, dx, _, e, h1, fRi_no l sh_ri, r1 H2 (s1.trans s2) _ fun y H3 s3 ⟨a, f1, ha⟩ => r2 H3 (s1.trans (s2.trans s3)) _ fun z H4 s4 f2 => r3 H4 (s1.trans (s2.trans (s3.trans s4))) _ fun u H5 s5 ⟨b, f3, hb⟩ => ?_⟩
    exact ⟨q, a, b, p, T, rent, g, by rw [e, f1, show z = V.int rent from f2, f3]; rfl, hq.same (s3.trans (s4.trans s5)), hp, ha.same (s4.trans s5), ht, hb, hg, fun H6 s6 => k _ H6 (s2.trans (s3.trans (s4.trans (s5.trans s6)))) rfl⟩
theorem rda_seShows {gs : List Nat} {ps : List Int} {T : List (List Int)} {rent : Int} (r : RdA σ H t (IsSe D.cSe gs ps)) (r1 : RdA σ H t1 (IsTb T)) (r2 : RdA σ H t2 (IsV (.int rent))) (ht : IsTab T) :
    RdA σ H (tMeth D.cSe "shows" (spSeShows D.cSe) [] E0 t (tCons t1 (tCons t2 tNil))) (IsV (.bl (setShows T rent gs ps))) := fun H1 s1 Q k =>
  r H1 s1 _ fun x H2 s2 ⟨q, e, hq⟩ => by
    obtain ⟨dx, l1, l2, h1, h2, h3⟩ := id hq
    refine ⟨q, dx, _, e, h1, fSe_no l1 l2 sh_ro sh_pr, r1 H2 (s1.trans s2) _ fun y H3 s3 ⟨a, f1, ha⟩ => r2 H3 (s1.trans (s2.trans s3)) _ fun z H4 s4 f2 => ?_⟩
    exact ⟨q, a, gs, ps, T, rent, by rw [e, f1, show z = V.int rent from f2]; rfl, hq.same (s3.trans s4), ha.same s4, ht, fun H6 s6 => k _ H6 (s2.trans (s3.trans (s4.trans s6))) rfl⟩
/-! tests -/
theorem tta_ne {v1 v2 : V} {b : Bool} (r1 : RdA σ H t1 (IsV v1)) (r2 : RdA σ H t2 (IsV v2)) (hs : scal v1 v2 = true) (e : (!decide (v1 = v2)) = b) : TtA σ H (tTest (tOp rNe t1 t2)) b := fun H1 s1 Q k =>
  r1 H1 s1 _ fun x H2 s2 e1 => r2 H2 (s1.trans s2) _ fun y H3 s3 e2 => by
    have e1 : x = v1 := e1
    have e2 : y = v2 := e2
    subst e1 e2
    exact ⟨hs, _, rfl, by rw [e]; exact k H3 (s2.trans s3)⟩
theorem tta_val {b : Bool} (r : RdA σ H t (IsV (.bl b))) : TtA σ H (tB t) b := fun H1 s1 Q k => r H1 s1 _ fun x H2 s2 e => ⟨b, e, k H2 s2⟩
theorem tta_not {u : TT} {b c : Bool} (r : TtA σ H u b) (e : (!b) = c) : TtA σ H (tNot u) c := fun H1 s1 Q k => r H1 s1 _ fun H2 s2 => by
  show Q (!b) H2
  rw [e]
  exact k H2 s2
theorem tta_or {u v : TT} (r1 : TtA σ H u false) (r2 : TtA σ H v false) : TtA σ H (tOr u v) false := fun H1 s1 Q k => r1 H1 s1 _ fun H2 s2 => iteF (r2 H2 (s1.trans s2) _ fun H3 s3 => k H3 (s2.trans s3))
theorem rda_not {b c : Bool} (r : RdA σ H t (IsV (.bl b))) (e : (!b) = c) : RdA σ H (tNotV t) (IsV (.bl c)) := fun H1 s1 Q k => r H1 s1 _ fun x H2 s2 e1 => ⟨b, e1, k _ H2 s2 (by rw [← e]; rfl)⟩
theorem tta_pair {i j : Int} (r1 : RdA σ H t1 (IsPair i j)) (r2 : RdA σ H t2 (IsPair i j)) : TtA σ H (tTest (tOp (rNeD K) t1 t2)) false := fun H1 s1 Q k =>
  r1 H1 s1 _ fun x H2 s2 ⟨p, e1, hp⟩ => r2 H2 (s1.trans s2) _ fun y H3 s3 ⟨q, e2, hq⟩ => by
    have d1 : Dp K H3 x (.tuple [.int i, .int j]) := by
      rw [e1]
      exact .tup (SqT.of (s3 _ _ hp)) (.cons (.int i) (.cons (.int j) .nil))
    have d2 : Dp K H3 y (.tuple [.int i, .int j]) := by
      rw [e2]
      exact .tup (SqT.of hq) (.cons (.int i) (.cons (.int j) .nil))
    have sh : SeqAt.shaped (.tuple [.int i, .int j]) = true := rfl
    refine ⟨_, _, d1, d2, sh, sh, false, ?_, k H3 (s2.trans s3)⟩
    rw [SeqAt.eqv_refl _ (SeqAt.canLay_of_shaped sh)]
    rfl
theorem rda_pair {i j : Int} (r1 : RdA σ H t1 (IsV (.int i))) (r2 : RdA σ H t2 (IsV (.int j))) : RdA σ H (tTup (tCons t1 (tCons t2 tNil))) (IsPair i j) := fun H1 s1 Q k =>
  r1 H1 s1 _ fun x H2 s2 e1 => r2 H2 (s1.trans s2) _ fun y H3 s3 e2 => by
    have e1 : x = V.int i := e1
    have e2 : y = V.int j := e2
    subst e1 e2
    refine ⟨by show 2 ≤ sizeLine; decide, fun p hp => ?_⟩
    exact k _ _ (s2.trans (s3.trans (same_new hp))) ⟨p, rfl, upd_same⟩
end
/-- «if test: return False», the test false -/
theorem does_if {X : Cx} {c : PySem.Expr} {sts : List Stmt} {pos : Pos} {tc : TT} {Pre : L2.St → Hp → Prop} (hc : PT X c tc) (hr : PSs X sts (tRet (tC (.bl false)))) (h : ∀ σ H, Pre σ H → TtA σ H tc false ∧ ∀ H', Same H H' → Pre σ H') : Does X (.If c sts [] pos) Pre Pre :=
  ⟨_, ps_if hc hr pss_nil, fun D σ H p k => (h σ H p).1 H (Same.refl H) _ fun H' s => iteF (k σ H' ((h σ H p).2 H' s))⟩
end RP
namespace RP
open PySem PySem.Spec PyProof.Rows L2
section
variable {P : Program} {w : World} {K : PySem.W.Frag} {mg : Str → Option Value} {base : Heap} {D : Adr}
/-! ### _law_rings_promises, statement by statement -/
abbrev nmRings : List Str := ["_law_table", "_law_alike", "_law_cases", "_law_people", "_law_due", "_law_three", "_law_some", "_law_rent", "_law_found"]
theorem scRings : FnScope nmRings ["_law_table", "_law_alike"] (defScope sRings) := ⟨rfl, rfl, rfl, by decide +kernel, rfl, by decide +kernel, by decide +kernel⟩
abbrev cxRi (P : Program) (w : World) (K : PySem.W.Frag) (mg : Str → Option Value) (base : Heap) (D : Adr) (cdv : Value) (A : Around) (outer : List Env) (s : Shared) (H : Hp) (E : XK) : Cx := (cxOf CX0 P w K mg base nmRings "_law_rings_promises" (defScope sRings) D.rings cdv A outer s H E).nox
abbrev roomRi (D : Adr) (k : Nat) (s : Shared) (cdv : Value) (A : Around) : Prop := Room k (A.deeper (envOfC "_law_rings_promises" (defScope sRings) s.heap.objs.size D.rings cdv))
abbrev stRi (i : Nat) : Stmt := (defBody sRings).getD i (.Pass ⟨0, 0, 0, 0⟩)
/-- the tables stand; what else stands in the slots is of no matter -/
def PreRi (H0 : Hp) (a b : Addr) (σ : L2.St) (H : Hp) : Prop := ∃ v2 v3 v4 v5 v6 v7 v8 : Option V, σ = [some (.ref a), some (.ref b), v2, v3, v4, v5, v6, v7, v8] ∧ Same H0 H ∧ Tab H a T1 ∧ Tab H b T2
/-- .. and the cases -/
def PreRiC {α : Type} (I : Hp → V → α → Prop) (cs : List α) (H0 : Hp) (a b : Addr) (σ : L2.St) (H : Hp) : Prop := ∃ (c : Addr) (xs : List V) (v3 v4 v5 v6 v7 v8 : Option V), σ = [some (.ref a), some (.ref b), some (.ref c), v3, v4, v5, v6, v7, v8] ∧ Same H0 H ∧ Tab H a T1 ∧ Tab H b T2 ∧ H c = some (.lst xs) ∧ Paired (I H) xs cs
/-- .. and three -/
def PreRi3 (H0 : Hp) (a b : Addr) (σ : L2.St) (H : Hp) : Prop := ∃ (c : Addr) (v2 v3 v4 v6 v7 v8 : Option V), σ = [some (.ref a), some (.ref b), v2, v3, v4, some (.ref c), v6, v7, v8] ∧ Same H0 H ∧ Tab H a T1 ∧ Tab H b T2 ∧ Tab H c T3
abbrev cs0 : List (List Nat × Bool) := [([0, 1], true), ([1, 0], true), ([0], false), ([], false), ([0, 0], false)]
abbrev cs1 : List (List Nat × Bool) := [([0, 2], false), ([0, 1, 0], false)]
theorem does_ri0 {cdv : Value} {A : Around} {outer : List Env} {s : Shared} {H : Hp} {E : XK} {H0 : Hp} {a b : Addr} : Does (cxRi P w K mg base D cdv A outer s H E) (stRi 0) (PreRi H0 a b) (PreRiC CaseP cs0 H0 a b) := by
  have nd := scRings.nd
  refine ⟨_, ps_set (i := 2) nd rfl (Or.inl rfl) (pe_lst (pa_cons (pe_tup (pa_cons (pe_lst (pa_cons pe_int (pa_cons pe_int pa_nil))) (pa_cons pe_bl pa_nil))) (pa_cons (pe_tup (pa_cons (pe_lst (pa_cons pe_int (pa_cons pe_int pa_nil))) (pa_cons pe_bl pa_nil)))
    (pa_cons (pe_tup (pa_cons (pe_lst (pa_cons pe_int pa_nil)) (pa_cons pe_bl pa_nil))) (pa_cons (pe_tup (pa_cons (pe_lst pa_nil) (pa_cons pe_bl pa_nil))) (pa_cons (pe_tup (pa_cons (pe_lst (pa_cons pe_int (pa_cons pe_int pa_nil))) (pa_cons pe_bl pa_nil))) pa_nil)))))), ?_⟩
  rintro Dn σ H1 ⟨v2, v3, v4, v5, v6, v7, v8, rfl, s1, ha, hb⟩ k
  refine items_lst CaseP.s (cs := cs0) (items_cons CaseP.s (caseP_rd ([0, 1], true) (fun _ _ q => q) (by decide)) (items_cons CaseP.s (caseP_rd ([1, 0], true) (fun _ _ q => q) (by decide)) (items_cons CaseP.s (caseP_rd ([0], false) (fun _ _ q => q) (by decide))
    (items_cons CaseP.s (caseP_rd ([], false) (fun _ _ q => q) (by decide)) (items_cons CaseP.s (caseP_rd ([0, 0], false) (fun _ _ q => q) (by decide)) items_nil))))) (by decide) fun H2 l xs s2 hl hp => ?_
  exact k _ _ ⟨l, xs, _, _, _, _, _, _, rfl, s1.trans s2, ha.same s2, hb.same s2, hl, hp⟩
variable {cdv : Value} {A : Around} {outer : List Env} {s : Shared} {H : Hp} {E : XK} {H0 : Hp} {a b : Addr}
theorem does_ri1 : Does (cxRi P w K mg base D cdv A outer s H E) (stRi 1) (PreRiC CaseP cs0 H0 a b) (PreRiC CaseP (cs0 ++ cs1) H0 a b) := by
  have nd := scRings.nd
  refine ⟨_, ps_set (i := 2) nd rfl (Or.inl rfl) (pe_op op_cat (pv 2) (pe_lst (pa_cons (pe_tup (pa_cons (pe_lst (pa_cons pe_int (pa_cons pe_int pa_nil))) (pa_cons pe_bl pa_nil))) (pa_cons (pe_tup (pa_cons (pe_lst (pa_cons pe_int (pa_cons pe_int (pa_cons pe_int pa_nil)))) (pa_cons pe_bl pa_nil))) pa_nil)))), ?_⟩
  rintro Dn σ H1 ⟨c, xs, v3, v4, v5, v6, v7, v8, rfl, s1, ha, hb, hc, hp⟩ k
  refine ⟨_, rfl, items_lst CaseP.s (cs := cs1) (items_cons CaseP.s (caseP_rd ([0, 2], false) (fun _ _ q => q) (by decide)) (items_cons CaseP.s (caseP_rd ([0, 1, 0], false) (fun _ _ q => q) (by decide)) items_nil)) (by decide) fun H2 l ys s2 hl hq => ?_⟩
  have l1 := Paired.length hp
  have l2 := Paired.length hq
  have big : (64 : Nat) ≤ sizeLine := by decide
  refine ⟨c, l, xs, ys, rfl, rfl, s2 _ _ hc, hl, by rw [l1, l2]; show 5 + 2 ≤ sizeLine; omega, fun p np => ?_⟩
  have s3 := same_new (o := .lst (xs ++ ys)) np
  have s13 := s2.trans s3
  exact k _ _ ⟨p, xs ++ ys, _, _, _, _, _, _, rfl, s1.trans s13, ha.same s13, hb.same s13, upd_same, paired_app (Paired.mapP hp fun x y z => CaseP.s _ _ _ _ s13 z) (Paired.mapP hq fun x y z => CaseP.s _ _ _ _ s3 z)⟩
theorem cs_ri : ∀ c ∈ cs0 ++ cs1, ringShows T1 [1, 0] c.1 = c.2 ∧ c.1.length ≤ 100 := by decide +kernel
theorem does_ri2 (T : Txt K mg D) (hr : roomRi D 5 s cdv A) : Does (cxRi P w K mg base D cdv A outer s H E) (stRi 2) (PreRiC CaseP (cs0 ++ cs1) H0 a b) (PreRi H0 a b) := by
  have nd := scRings.nd
  have G7 := ok_riInit (P := P) (w := w) (base := base) T
  have M2 := (ok_riShows (P := P) (w := w) (base := base) T).mono (j := 5) (by decide)
  have hr2 : Room 2 _ := hr.mono (by decide)
  refine ⟨_, ps_for PassesOwn.never rfl (pi_list (pv 2)) (pg_tup rfl (pgs_cons (pg_name (i := 3) nd rfl (Or.inl rfl)) (pgs_cons (pg_name (i := 4) nd rfl (Or.inl rfl)) pgs_nil)))
    (pss_one (ps_if (pt_cmpR op_ne (pe_me (pe_mk T.cRi.mkr G7 hr2 T.cRi.gl (pa_cons (pv 3) pa_nil)) T.cRi.cl T.riShows M2 hr (pa_cons (pv 0) (pa_cons pe_int (pa_cons (pe_lst (pa_cons pe_int (pa_cons pe_int pa_nil))) pa_nil)))) (pv 4) (nomark _)) (pss_one (ps_ret pe_bl)) pss_nil)), ?_⟩
  rintro Dn σ H1 ⟨c, xs, v3, v4, v5, v6, v7, v8, rfl, s1, ha, hb, hc, hp⟩ k
  refine ⟨_, rfl, c, rfl, ⟨_, SqL.of hc⟩, for_list (K := K) (a := c) (xs := xs) (fun i σ H' => ∃ v3 v4 : Option V, σ = [some (.ref a), some (.ref b), some (.ref c), v3, v4, v5, v6, v7, v8] ∧ Same H1 H') ⟨v3, v4, rfl, Same.refl H1⟩ (fun i σ H' _ ⟨_, _, _, s2⟩ => SqL.of (s2 _ _ hc)) ?_ ?_⟩
  · rintro i x σ H2 hx ⟨u3, u4, rfl, s2⟩
    obtain ⟨cse, hcs, t, l, rfl, ht, hl⟩ := paired_get hp hx
    obtain ⟨e1, e2⟩ := cs_ri cse (List.mem_of_getElem? hcs)
    refine ⟨t, _, rfl, SqT.of (s2 _ _ ht), rfl, _, _, rfl, _, _, rfl, rfl, ?_⟩
    refine tta_ne (b := false) (rda_riShows (rda_mkRi (rda_vnats rfl (s2 _ _ hl))) (rda_vtab rfl (ha.same s2)) rda_c (rda_nats [1, 0] (fun _ _ q => q) (by decide)) isT1 giving10 e2) (rda_var rfl) rfl ?_ H2 (Same.refl H2) _ fun H3 s3 => iteF ⟨_, _, rfl, s2.trans s3⟩
    rw [e1, decide_eq_true rfl]
    rfl
  · rintro σ H2 ⟨u3, u4, rfl, s2⟩
    exact k _ _ ⟨_, _, _, _, _, _, _, rfl, s1.trans s2, ha.same s2, hb.same s2⟩
theorem preRi_same {σ : L2.St} {H H' : Hp} (h : PreRi H0 a b σ H) (s : Same H H') : PreRi H0 a b σ H' := by
  obtain ⟨v2, v3, v4, v5, v6, v7, v8, e, s1, ha, hb⟩ := h
  exact ⟨v2, v3, v4, v5, v6, v7, v8, e, s1.trans s, ha.same s, hb.same s⟩
theorem preRi3_same {σ : L2.St} {H H' : Hp} (h : PreRi3 H0 a b σ H) (s : Same H H') : PreRi3 H0 a b σ H' := by
  obtain ⟨c, v2, v3, v4, v6, v7, v8, e, s1, ha, hb, hc⟩ := h
  exact ⟨c, v2, v3, v4, v6, v7, v8, e, s1.trans s, ha.same s, hb.same s, hc.same s⟩
theorem does_ri3 (T : Txt K mg D) (hr : roomRi D 5 s cdv A) : Does (cxRi P w K mg base D cdv A outer s H E) (stRi 3) (PreRi H0 a b) (PreRi H0 a b) := by
  have G7 := ok_riInit (P := P) (w := w) (base := base) T
  have M2 := (ok_riShows (P := P) (w := w) (base := base) T).mono (j := 5) (by decide)
  have hr2 : Room 2 _ := hr.mono (by decide)
  refine does_if (PW.pt (pw_or (pt_val (pe_me (pe_mk T.cRi.mkr G7 hr2 T.cRi.gl (pa_cons (pe_lst (pa_cons pe_int (pa_cons pe_int pa_nil))) pa_nil)) T.cRi.cl T.riShows M2 hr (pa_cons (pv 0) (pa_cons pe_int (pa_cons (pe_lst (pa_cons pe_int (pa_cons pe_int pa_nil))) pa_nil)))))
    (pw_or1 (pt_val (pe_me (pe_mk T.cRi.mkr G7 hr2 T.cRi.gl (pa_cons (pe_lst (pa_cons pe_int (pa_cons pe_int pa_nil))) pa_nil)) T.cRi.cl T.riShows M2 hr (pa_cons (pv 1) (pa_cons pe_int (pa_cons (pe_lst (pa_cons pe_int (pa_cons pe_int pa_nil))) pa_nil)))))))) (pss_one (ps_ret pe_bl)) ?_
  intro σ H1 h
  refine ⟨?_, fun H' s => preRi_same h s⟩
  obtain ⟨v2, v3, v4, v5, v6, v7, v8, rfl, s1, ha, hb⟩ := h
  have e1 : ringShows T1 [0, 1] [0, 1] = false := by decide +kernel
  have e2 : ringShows T2 [0, 1] [0, 1] = false := by decide +kernel
  refine tta_or (tta_val ?_) (tta_val ?_)
  · rw [← e1]
    exact rda_riShows (rda_mkRi (rda_nats [0, 1] (fun _ _ q => q) (by decide))) (rda_vtab rfl ha) rda_c (rda_nats [0, 1] (fun _ _ q => q) (by decide)) isT1 giving01 (by decide)
  · rw [← e2]
    exact rda_riShows (rda_mkRi (rda_nats [0, 1] (fun _ _ q => q) (by decide))) (rda_vtab rfl hb) rda_c (rda_nats [0, 1] (fun _ _ q => q) (by decide)) isT2 giving01 (by decide)
theorem does_ri4 : Does (cxRi P w K mg base D cdv A outer s H E) (stRi 4) (PreRi H0 a b) (PreRi3 H0 a b) := by
  have nd := scRings.nd
  refine ⟨_, ps_set (i := 5) nd rfl (Or.inl rfl) (pe_lst (pa_cons (pe_lst (pa_cons pe_int (pa_cons pe_int (pa_cons pe_int pa_nil)))) (pa_cons (pe_lst (pa_cons pe_int (pa_cons pe_int (pa_cons pe_int pa_nil)))) (pa_cons (pe_lst (pa_cons pe_int (pa_cons pe_int (pa_cons pe_int pa_nil)))) pa_nil)))), ?_⟩
  rintro Dn σ H1 ⟨v2, v3, v4, v5, v6, v7, v8, rfl, s1, ha, hb⟩ k
  refine rd_tab (T := T3) (rows_cons [0, 9, 0] (fun _ _ q => q) (by decide) (rows_cons [0, 0, 9] (fun _ _ q => q) (by decide) (rows_cons [9, 0, 0] (fun _ _ q => q) (by decide) items_nil))) (by decide) fun H2 t s2 ht => ?_
  exact k _ _ ⟨t, _, _, _, _, _, _, rfl, s1.trans s2, ha.same s2, hb.same s2, ht⟩
theorem does_ri5 (T : Txt K mg D) (hr : roomRi D 5 s cdv A) : Does (cxRi P w K mg base D cdv A outer s H E) (stRi 5) (PreRi3 H0 a b) (PreRi3 H0 a b) := by
  have G7 := ok_riInit (P := P) (w := w) (base := base) T
  have M2 := (ok_riShows (P := P) (w := w) (base := base) T).mono (j := 5) (by decide)
  have hr2 : Room 2 _ := hr.mono (by decide)
  refine does_if (PW.pt (pw_or (pt_not (pt_val (pe_me (pe_mk T.cRi.mkr G7 hr2 T.cRi.gl (pa_cons (pe_lst (pa_cons pe_int (pa_cons pe_int (pa_cons pe_int pa_nil)))) pa_nil)) T.cRi.cl T.riShows M2 hr (pa_cons (pv 5) (pa_cons pe_int (pa_cons (pe_lst (pa_cons pe_int (pa_cons pe_int (pa_cons pe_int pa_nil)))) pa_nil))))))
    (pw_or1 (pt_val (pe_me (pe_mk T.cRi.mkr G7 hr2 T.cRi.gl (pa_cons (pe_lst (pa_cons pe_int (pa_cons pe_int (pa_cons pe_int pa_nil)))) pa_nil)) T.cRi.cl T.riShows M2 hr (pa_cons (pv 5) (pa_cons pe_int (pa_cons (pe_lst (pa_cons pe_int (pa_cons pe_int (pa_cons pe_int pa_nil)))) pa_nil)))))))) (pss_one (ps_ret pe_bl)) ?_
  intro σ H1 h
  refine ⟨?_, fun H' s => preRi3_same h s⟩
  obtain ⟨c, v2, v3, v4, v6, v7, v8, rfl, s1, ha, hb, hc⟩ := h
  have e1 : ringShows T3 [0, 1, 2] [0, 1, 2] = true := by decide +kernel
  have e2 : ringShows T3 [0, 1, 2] [0, 2, 1] = false := by decide +kernel
  refine tta_or (tta_not (b := true) (tta_val ?_) rfl) (tta_val ?_)
  · rw [← e1]
    exact rda_riShows (rda_mkRi (rda_nats [0, 1, 2] (fun _ _ q => q) (by decide))) (rda_vtab rfl hc) rda_c (rda_nats [0, 1, 2] (fun _ _ q => q) (by decide)) isT3 giving012 (by decide)
  · rw [← e2]
    exact rda_riShows (rda_mkRi (rda_nats [0, 2, 1] (fun _ _ q => q) (by decide))) (rda_vtab rfl hc) rda_c (rda_nats [0, 1, 2] (fun _ _ q => q) (by decide)) isT3 giving012 (by decide)
theorem does_ri6 (T : Txt K mg D) (hr : roomRi D 5 s cdv A) : Does (cxRi P w K mg base D cdv A outer s H E) (stRi 6) (PreRi3 H0 a b) (PreRi3 H0 a b) := by
  have G7 := ok_riInit (P := P) (w := w) (base := base) T
  have M2 := (ok_riShows (P := P) (w := w) (base := base) T).mono (j := 5) (by decide)
  have hr2 : Room 2 _ := hr.mono (by decide)
  refine does_if (pt_not (pt_val (pe_me (pe_mk T.cRi.mkr G7 hr2 T.cRi.gl (pa_cons (pe_lst (pa_cons pe_int (pa_cons pe_int (pa_cons pe_int pa_nil)))) pa_nil)) T.cRi.cl T.riShows M2 hr (pa_cons (pv 5) (pa_cons pe_int (pa_cons (pe_lst (pa_cons pe_int (pa_cons pe_int (pa_cons pe_int pa_nil)))) pa_nil)))))) (pss_one (ps_ret pe_bl)) ?_
  intro σ H1 h
  refine ⟨?_, fun H' s => preRi3_same h s⟩
  obtain ⟨c, v2, v3, v4, v6, v7, v8, rfl, s1, ha, hb, hc⟩ := h
  have e1 : ringShows T3 [0, 1, 2] [2, 0, 1] = true := by decide +kernel
  refine tta_not (b := true) (tta_val ?_) rfl
  rw [← e1]
  exact rda_riShows (rda_mkRi (rda_nats [2, 0, 1] (fun _ _ q => q) (by decide))) (rda_vtab rfl hc) rda_c (rda_nats [0, 1, 2] (fun _ _ q => q) (by decide)) isT3 giving012 (by decide)
end
end RP
namespace RP
open PySem PySem.Spec PyProof.Rows L2
section
variable {D : Adr} {K : PySem.W.Frag} {mg : Str → Option Value} {σ : L2.St} {H : Hp} {t t1 t2 : TE} {tl : TA}
theorem caseT_of {ta tb : TE} (T : List (List Int)) (r : Int) (ra : RdA σ H ta (IsTb T)) (rb : RdA σ H tb (IsV (.int r))) : ∀ (H2 : Hp) (Q : VK), Same H H2 → (∀ H' x, Same H2 H' → CaseT H' x (T, r) → Q x H') → tTup (tCons ta (tCons tb tNil)) σ H2 Q := by
  intro H2 Q s0 k
  refine ra H2 s0 _ fun x H3 s3 ⟨a, e1, h1⟩ => rb H3 (s0.trans s3) _ fun y H4 s4 e2 => ?_
  have e2 : y = V.int r := e2
  subst e1 e2
  refine ⟨by show 2 ≤ sizeLine; decide, fun p hp => ?_⟩
  have s5 := same_new (o := .tup [V.ref a, V.int r]) hp
  exact k _ _ (s3.trans (s4.trans s5)) ⟨p, a, rfl, upd_same, (h1.same s4).same s5⟩
theorem ifS_of {tc : TT} {u v : TS} {Dn : Ends} (h : TtA σ H tc false) (k : ∀ H', Same H H' → v Dn σ H') : tIfS tc u v Dn σ H := h H (Same.refl H) _ fun H' s => iteF (k H' s)
theorem rda_rep3 : RdA σ H (tOp rRep (tLst (tCons (tLst (tCons (tC (.int 0)) (tCons (tC (.int 0)) (tCons (tC (.int 0)) tNil)))) tNil)) (tC (.int 3))) (IsTb [[0, 0, 0], [0, 0, 0], [0, 0, 0]]) := by
  intro H1 s1 Q k
  have big : (64 : Nat) ≤ sizeLine := by decide
  refine ⟨by show 3 ≤ sizeLine; omega, fun r hr => ⟨by show 1 ≤ sizeLine; omega, fun l hl => ?_⟩⟩
  have s2 := same_new (o := .lst [V.int 0, V.int 0, V.int 0]) hr
  have s3 := same_new (o := .lst [V.ref r]) hl
  have hR := s3 _ _ (upd_same (H := H1) (a := r) (o := .lst [V.int 0, V.int 0, V.int 0]))
  refine ⟨l, 3, [V.ref r], rfl, rfl, upd_same, by decide, by decide, by show 1 * 3 ≤ sizeLine; omega, fun p hp => ?_⟩
  have s4 := same_new (o := .lst (List.replicate (3 : Int).toNat [V.ref r]).flatten) hp
  refine k _ _ (s2.trans (s3.trans s4)) ⟨p, rfl, tabOf [(r, [0, 0, 0]), (r, [0, 0, 0]), (r, [0, 0, 0])] upd_same fun z hz => ?_⟩
  have hz : z = (r, [0, 0, 0]) := by
    simp only [List.mem_cons, List.not_mem_nil, or_false] at hz
    rcases hz with e | e | e <;> exact e
  rw [hz]
  exact s4 _ _ hR
theorem rda_vse {i : Nat} {p : Addr} {g : List Nat} {ps : List Int} (h : σ[i]? = some (some (.ref p))) (hp : SeAt D.cSe H p g ps) : RdA σ H (tVar i) (IsSe D.cSe g ps) := fun H1 s Q k => ⟨_, h, k _ H1 (Same.refl H1) ⟨p, rfl, hp.same s⟩⟩
theorem rda_sePrices (T : Txt K mg D) {g : List Nat} {ps : List Int} (r : RdA σ H t (IsSe D.cSe g ps)) : RdA σ H (tFld K t "prices") (IsI ps) := fun H1 s Q k => r H1 s _ fun x H2 s2 ⟨p, e, hp⟩ => by
  obtain ⟨dx, r, l, h1, h2, h3⟩ := hp
  exact ⟨p, D.cSe, dx, _, _, e, h1, T.cSe.cl, T.sePrices, fSe_prices r l, k _ H2 s2 ⟨l, rfl, h3⟩⟩
theorem rda_seRooms (T : Txt K mg D) {g : List Nat} {ps : List Int} (r : RdA σ H t (IsSe D.cSe g ps)) : RdA σ H (tFld K t "rooms") (IsN g) := fun H1 s Q k => r H1 s _ fun x H2 s2 ⟨p, e, hp⟩ => by
  obtain ⟨dx, r, l, h1, h2, h3⟩ := hp
  exact ⟨p, D.cSe, dx, _, _, e, h1, T.cSe.cl, T.seRooms, fSe_rooms r l, k _ H2 s2 ⟨r, rfl, h2⟩⟩
theorem rda_sum {ns : List Int} (r : RdA σ H t (IsI ns)) : RdA σ H (tCB (rSum K) (tCons t tNil)) (IsV (.int ns.sum)) := fun H1 s Q k => r H1 s _ fun x H2 s2 ⟨l, e, hl⟩ => ⟨l, ns, by rw [e], SqL.of hl, k _ H2 s2 rfl⟩
theorem rda_mul {i j z : Int} (r1 : RdA σ H t1 (IsV (.int i))) (r2 : RdA σ H t2 (IsV (.int j))) (hj : -(2 ^ 64) < j ∧ j < 2 ^ 64) (e : i * j = z) : RdA σ H (tOp (rI CMul fun i j => .int (i * j)) t1 t2) (IsV (.int z)) := fun H1 s Q k =>
  r1 H1 s _ fun x H2 s2 e1 => r2 H2 (s.trans s2) _ fun y H3 s3 e2 => ⟨i, j, e1, e2, .inr hj, k _ H3 (s2.trans s3) (by rw [← e]; rfl)⟩
end
section
variable {P : Program} {w : World} {K : PySem.W.Frag} {mg : Str → Option Value} {base : Heap} {D : Adr} {cdv : Value} {A : Around} {outer : List Env} {s : Shared} {H : Hp} {E : XK} {H0 : Hp} {a b : Addr}
abbrev ct0 : List (List (List Int) × Int) := [(T1, 4), (T1, 5), (T1, -7), ([[4]], 9), (T2, 0), (T3, 10)]
abbrev ct1 : List (List (List Int) × Int) := [([[0, 0, 0], [0, 0, 0], [0, 0, 0]], 1)]
theorem does_ri7 : Does (cxRi P w K mg base D cdv A outer s H E) (stRi 7) (PreRi3 H0 a b) (PreRiC CaseT ct0 H0 a b) := by
  have nd := scRings.nd
  refine ⟨_, ps_set (i := 2) nd rfl (Or.inl rfl) (pe_lst (pa_cons (pe_tup (pa_cons (pv 0) (pa_cons pe_int pa_nil))) (pa_cons (pe_tup (pa_cons (pv 0) (pa_cons pe_int pa_nil))) (pa_cons (pe_tup (pa_cons (pv 0) (pa_cons (pe_un un_neg pe_int) pa_nil)))
    (pa_cons (pe_tup (pa_cons (pe_lst (pa_cons (pe_lst (pa_cons pe_int pa_nil)) pa_nil)) (pa_cons pe_int pa_nil))) (pa_cons (pe_tup (pa_cons (pv 1) (pa_cons pe_int pa_nil))) (pa_cons (pe_tup (pa_cons (pv 5) (pa_cons pe_int pa_nil))) pa_nil))))))), ?_⟩
  rintro Dn σ H1 ⟨c, v2, v3, v4, v6, v7, v8, rfl, s1, ha, hb, hc⟩ k
  refine items_lst CaseT.s (cs := ct0) (items_cons CaseT.s (caseT_of T1 4 (rda_vtab rfl ha) rda_c) (items_cons CaseT.s (caseT_of T1 5 (rda_vtab rfl ha) rda_c) (items_cons CaseT.s (caseT_of T1 (-7) (rda_vtab rfl ha) (rda_neg rfl))
    (items_cons CaseT.s (caseT_of [[4]] 9 (rda_tab (fun H1 _ => rows_cons [4] (fun _ _ q => q) (by decide) items_nil) (by decide)) rda_c) (items_cons CaseT.s (caseT_of T2 0 (rda_vtab rfl hb) rda_c) (items_cons CaseT.s (caseT_of T3 10 (rda_vtab rfl hc) rda_c) items_nil)))))) (by decide) fun H2 l xs s2 hl hp => ?_
  exact k _ _ ⟨l, xs, _, _, _, _, _, _, rfl, s1.trans s2, ha.same s2, hb.same s2, hl, hp⟩
theorem does_ri8 : Does (cxRi P w K mg base D cdv A outer s H E) (stRi 8) (PreRiC CaseT ct0 H0 a b) (PreRiC CaseT (ct0 ++ ct1) H0 a b) := by
  have nd := scRings.nd
  refine ⟨_, ps_set (i := 2) nd rfl (Or.inl rfl) (pe_op op_cat (pv 2) (pe_lst (pa_cons (pe_tup (pa_cons (pe_op op_rep (pe_lst (pa_cons (pe_lst (pa_cons pe_int (pa_cons pe_int (pa_cons pe_int pa_nil)))) pa_nil)) pe_int) (pa_cons pe_int pa_nil))) pa_nil))), ?_⟩
  rintro Dn σ H1 ⟨c, xs, v3, v4, v5, v6, v7, v8, rfl, s1, ha, hb, hc, hp⟩ k
  refine ⟨_, rfl, items_lst CaseT.s (cs := ct1) (items_cons CaseT.s (caseT_of [[0, 0, 0], [0, 0, 0], [0, 0, 0]] 1 rda_rep3 rda_c) items_nil) (by decide) fun H2 l ys s2 hl hq => ?_⟩
  have l1 := Paired.length hp
  have l2 := Paired.length hq
  have big : (64 : Nat) ≤ sizeLine := by decide
  refine ⟨c, l, xs, ys, rfl, rfl, s2 _ _ hc, hl, by rw [l1, l2]; show 6 + 1 ≤ sizeLine; omega, fun p np => ?_⟩
  have s3 := same_new (o := .lst (xs ++ ys)) np
  have s13 := s2.trans s3
  exact k _ _ ⟨p, xs ++ ys, _, _, _, _, _, _, rfl, s1.trans s13, ha.same s13, hb.same s13, upd_same, paired_app (Paired.mapP hp fun x y z => CaseT.s _ _ _ _ s13 z) (Paired.mapP hq fun x y z => CaseT.s _ _ _ _ s3 z)⟩
theorem ct_ok : ∀ c ∈ ct0 ++ ct1, IsTab c.1 ∧ setShows c.1 c.2 (best c.1) (pricesOf c.1 c.2 (best c.1)) = true ∧ (pricesOf c.1 c.2 (best c.1)).sum = c.2 * (c.1.length : Int) := by
  have h2 : ∀ c ∈ ct0 ++ ct1, setShows c.1 c.2 (best c.1) (pricesOf c.1 c.2 (best c.1)) = true ∧ (pricesOf c.1 c.2 (best c.1)).sum = c.2 * (c.1.length : Int) := by decide +kernel
  intro c hc
  refine ⟨?_, h2 c hc⟩
  simp only [List.mem_cons, List.mem_append, List.not_mem_nil, or_false] at hc
  rcases hc with (rfl | rfl | rfl | rfl | rfl | rfl) | rfl
  · exact isT1
  · exact isT1
  · exact isT1
  · exact isT4 4
  · exact isT2
  · exact isT3
  · exact isT0
theorem does_ri9 (T : Txt K mg D) (hr : roomRi D 5 s cdv A) : Does (cxRi P w K mg base D cdv A outer s H E) (stRi 9) (PreRiC CaseT (ct0 ++ ct1) H0 a b) (PreRi H0 a b) := by
  have nd := scRings.nd
  have G2 := ok_settled (P := P) (w := w) (base := base) T
  have M3 := (ok_seShows (P := P) (w := w) (base := base) T).mono (j := 5) (by decide)
  have G3 := (ok_worth (P := P) (w := w) (base := base) T).mono (j := 5) (by decide)
  have G4 := (ok_most (P := P) (w := w) (base := base) T).mono (j := 5) (by decide)
  refine ⟨_, ps_for PassesOwn.never rfl (pi_list (pv 2)) (pg_tup rfl (pgs_cons (pg_name (i := 6) nd rfl (Or.inl rfl)) (pgs_cons (pg_name (i := 7) nd rfl (Or.inl rfl)) pgs_nil)))
    (pss_cons (ps_set (i := 8) nd rfl (Or.inl rfl) (pe_cl G2 hr T.settled.gl (pa_cons (pv 6) (pa_cons (pv 7) pa_nil))))
    (pss_cons (ps_if (PW.pt (pw_or (pt_not (pt_val (pe_me (pv 8) T.cSe.cl T.seShows M3 hr (pa_cons (pv 6) (pa_cons (pv 7) pa_nil)))))
      (pw_or1 (pt_cmpR op_ne (pe_callB (cr_sum rfl) (by rfl) T.zSum (by decide +kernel) (pa_cons (pe_fld (pv 8) rfl) pa_nil)) (pe_op op_mul (pv 7) (pe_callB (lenK K) (by rfl) T.zLen PySem.boot_len (pa_cons (pv 6) pa_nil))) (nomark _))))) (pss_one (ps_ret pe_bl)) pss_nil)
    (pss_one (ps_if (pt_cmpR op_ne (pe_cl G3 hr T.worth.gl (pa_cons (pv 6) (pa_cons (pe_fld (pv 8) rfl) pa_nil))) (pe_cl G4 hr T.most.gl (pa_cons (pv 6) pa_nil)) (nomark _)) (pss_one (ps_ret pe_bl)) pss_nil)))), ?_⟩
  rintro Dn σ H1 ⟨c, xs, v3, v4, v5, v6, v7, v8, rfl, s1, ha, hb, hc, hp⟩ k
  refine ⟨_, rfl, c, rfl, ⟨_, SqL.of hc⟩, for_list (K := K) (a := c) (xs := xs) (fun i σ H' => ∃ v6 v7 v8 : Option V, σ = [some (.ref a), some (.ref b), some (.ref c), v3, v4, v5, v6, v7, v8] ∧ Same H1 H') ⟨v6, v7, v8, rfl, Same.refl H1⟩ (fun i σ H' _ ⟨_, _, _, _, s2⟩ => SqL.of (s2 _ _ hc)) ?_ ?_⟩
  · rintro i x σ H2 hx ⟨u6, u7, u8, rfl, s2⟩
    obtain ⟨⟨TT, rent⟩, hcs, t, z, rfl, ht, hz⟩ := paired_get hp hx
    obtain ⟨e1, e2, e3⟩ := ct_ok _ (List.mem_of_getElem? hcs)
    have e1 : IsTab TT := e1
    have hz2 : Tab H2 z TT := hz.same s2
    have big : TT.length ≤ 12 := e1.most
    refine ⟨t, _, rfl, SqT.of (s2 _ _ ht), rfl, _, _, rfl, _, _, rfl, rfl, ?_⟩
    refine rda_settled (D := D) (rda_vtab rfl hz2) (rda_var rfl) e1 H2 (Same.refl H2) _ fun y H3 s3 ⟨p, ey, hse⟩ => ?_
    subst ey
    have hlt : -(2 ^ 64) < (TT.length : Int) ∧ (TT.length : Int) < 2 ^ 64 := ⟨by omega, by omega⟩
    unfold gName
    dsimp only [List.set]
    unfold tSeq
    refine ifS_of ?_ fun H4 s4 => ?_
    · refine tta_or (tta_not (b := true) (tta_val (b := true) ?_) rfl) (tta_ne (b := false) (rda_sum (rda_sePrices T (rda_vse rfl hse))) (rda_mul (i := rent) (j := (TT.length : Int)) (z := rent * (TT.length : Int)) (rda_var rfl) (rda_len (R := TT.length) (rda_vtab rfl (hz2.same s3)) rfl) hlt rfl) rfl ?_)
      · rw [← show setShows TT rent (best TT) (pricesOf TT rent (best TT)) = true from e2]
        exact rda_seShows (rda_vse rfl hse) (rda_vtab rfl (hz2.same s3)) (rda_var rfl) e1
      · rw [show (pricesOf TT rent (best TT)).sum = rent * (TT.length : Int) from e3, decide_eq_true rfl]
        rfl
    have s34 := s3.trans s4
    unfold tNext
    dsimp only
    refine ifS_of ?_ fun H5 s5 => ?_
    · refine tta_ne (b := false) (rda_worth (rda_vtab rfl (hz2.same s34)) (rda_seRooms T (rda_vse rfl (hse.same s4))) e1 (best_giving TT)) (rda_most (rda_vtab rfl (hz2.same s34)) e1) rfl ?_
      rw [decide_eq_true (show V.int (worth TT (best TT)) = V.int (most TT) from rfl)]
      rfl
    · exact ⟨_, _, _, rfl, s2.trans (s34.trans s5)⟩
  · rintro σ H2 ⟨u6, u7, u8, rfl, s2⟩
    exact k _ _ ⟨_, _, _, _, _, _, _, rfl, s1.trans s2, ha.same s2, hb.same s2⟩
theorem se_e1 : setShows T1 4 [0, 1] [8, 0] = true := by decide +kernel
theorem se_e2 : setShows T1 4 [1, 0] [8, 0] = false := by decide +kernel
theorem se_e3 : setShows T1 4 [0, 0] [8, 0] = false := by decide +kernel
theorem se_e4 : setShows T2 3 [0, 1] [3, 3] = true := by decide +kernel
theorem se_e5 : setShows T2 3 [1, 0] [3, 3] = true := by decide +kernel
theorem se_e6 : setShows T2 3 [0, 1] [3] = false := by decide +kernel
theorem does_ri10 (T : Txt K mg D) (hr : roomRi D 5 s cdv A) : Does (cxRi P w K mg base D cdv A outer s H E) (stRi 10) (PreRi H0 a b) (PreRi H0 a b) := by
  have G8 := ok_seInit (P := P) (w := w) (base := base) T
  have M3 := (ok_seShows (P := P) (w := w) (base := base) T).mono (j := 5) (by decide)
  have hr2 : Room 2 _ := hr.mono (by decide)
  refine does_if (PW.pt (pw_or (pt_not (pt_val (pe_me (pe_mk T.cSe.mkr G8 hr2 T.cSe.gl (pa_cons (pe_lst (pa_cons pe_int (pa_cons pe_int pa_nil))) (pa_cons (pe_lst (pa_cons pe_int (pa_cons pe_int pa_nil))) pa_nil))) T.cSe.cl T.seShows M3 hr (pa_cons (pv 0) (pa_cons pe_int pa_nil)))))
    (pw_or1 (pt_val (pe_me (pe_mk T.cSe.mkr G8 hr2 T.cSe.gl (pa_cons (pe_lst (pa_cons pe_int (pa_cons pe_int pa_nil))) (pa_cons (pe_lst (pa_cons pe_int (pa_cons pe_int pa_nil))) pa_nil))) T.cSe.cl T.seShows M3 hr (pa_cons (pv 0) (pa_cons pe_int pa_nil))))))) (pss_one (ps_ret pe_bl)) ?_
  intro σ H1 h
  refine ⟨?_, fun H' s => preRi_same h s⟩
  obtain ⟨v2, v3, v4, v5, v6, v7, v8, rfl, s1, ha, hb⟩ := h
  refine tta_or (tta_not (b := true) (tta_val ?_) rfl) (tta_val ?_)
  · rw [← se_e1]
    exact rda_seShows (rda_mkSe (rda_nats [0, 1] (fun _ _ q => q) (by decide)) (rda_ints [8, 0] (fun _ _ q => q) (by decide))) (rda_vtab rfl ha) rda_c isT1
  · rw [← se_e2]
    exact rda_seShows (rda_mkSe (rda_nats [1, 0] (fun _ _ q => q) (by decide)) (rda_ints [8, 0] (fun _ _ q => q) (by decide))) (rda_vtab rfl ha) rda_c isT1
theorem does_ri11 (T : Txt K mg D) (hr : roomRi D 5 s cdv A) : Does (cxRi P w K mg base D cdv A outer s H E) (stRi 11) (PreRi H0 a b) (PreRi H0 a b) := by
  have G8 := ok_seInit (P := P) (w := w) (base := base) T
  have M3 := (ok_seShows (P := P) (w := w) (base := base) T).mono (j := 5) (by decide)
  have hr2 : Room 2 _ := hr.mono (by decide)
  refine does_if (pt_val (pe_me (pe_mk T.cSe.mkr G8 hr2 T.cSe.gl (pa_cons (pe_lst (pa_cons pe_int (pa_cons pe_int pa_nil))) (pa_cons (pe_lst (pa_cons pe_int (pa_cons pe_int pa_nil))) pa_nil))) T.cSe.cl T.seShows M3 hr (pa_cons (pv 0) (pa_cons pe_int pa_nil)))) (pss_one (ps_ret pe_bl)) ?_
  intro σ H1 h
  refine ⟨?_, fun H' s => preRi_same h s⟩
  obtain ⟨v2, v3, v4, v5, v6, v7, v8, rfl, s1, ha, hb⟩ := h
  refine tta_val ?_
  rw [← se_e3]
  exact rda_seShows (rda_mkSe (rda_nats [0, 0] (fun _ _ q => q) (by decide)) (rda_ints [8, 0] (fun _ _ q => q) (by decide))) (rda_vtab rfl ha) rda_c isT1
theorem does_ri12 (T : Txt K mg D) (hr : roomRi D 5 s cdv A) : Does (cxRi P w K mg base D cdv A outer s H E) (stRi 12) (PreRi H0 a b) (PreRi H0 a b) := by
  have G8 := ok_seInit (P := P) (w := w) (base := base) T
  have M3 := (ok_seShows (P := P) (w := w) (base := base) T).mono (j := 5) (by decide)
  have hr2 : Room 2 _ := hr.mono (by decide)
  refine does_if (pt_not (pt_val (pe_me (pe_mk T.cSe.mkr G8 hr2 T.cSe.gl (pa_cons (pe_lst (pa_cons pe_int (pa_cons pe_int pa_nil))) (pa_cons (pe_lst (pa_cons pe_int (pa_cons pe_int pa_nil))) pa_nil))) T.cSe.cl T.seShows M3 hr (pa_cons (pv 1) (pa_cons pe_int pa_nil))))) (pss_one (ps_ret pe_bl)) ?_
  intro σ H1 h
  refine ⟨?_, fun H' s => preRi_same h s⟩
  obtain ⟨v2, v3, v4, v5, v6, v7, v8, rfl, s1, ha, hb⟩ := h
  refine tta_not (b := true) (tta_val ?_) rfl
  rw [← se_e4]
  exact rda_seShows (rda_mkSe (rda_nats [0, 1] (fun _ _ q => q) (by decide)) (rda_ints [3, 3] (fun _ _ q => q) (by decide))) (rda_vtab rfl hb) rda_c isT2
theorem does_ri13 (T : Txt K mg D) (hr : roomRi D 5 s cdv A) : Does (cxRi P w K mg base D cdv A outer s H E) (stRi 13) (PreRi H0 a b) (PreRi H0 a b) := by
  have G8 := ok_seInit (P := P) (w := w) (base := base) T
  have M3 := (ok_seShows (P := P) (w := w) (base := base) T).mono (j := 5) (by decide)
  have hr2 : Room 2 _ := hr.mono (by decide)
  refine does_if (pt_not (pt_val (pe_me (pe_mk T.cSe.mkr G8 hr2 T.cSe.gl (pa_cons (pe_lst (pa_cons pe_int (pa_cons pe_int pa_nil))) (pa_cons (pe_lst (pa_cons pe_int (pa_cons pe_int pa_nil))) pa_nil))) T.cSe.cl T.seShows M3 hr (pa_cons (pv 1) (pa_cons pe_int pa_nil))))) (pss_one (ps_ret pe_bl)) ?_
  intro σ H1 h
  refine ⟨?_, fun H' s => preRi_same h s⟩
  obtain ⟨v2, v3, v4, v5, v6, v7, v8, rfl, s1, ha, hb⟩ := h
  refine tta_not (b := true) (tta_val ?_) rfl
  rw [← se_e5]
  exact rda_seShows (rda_mkSe (rda_nats [1, 0] (fun _ _ q => q) (by decide)) (rda_ints [3, 3] (fun _ _ q => q) (by decide))) (rda_vtab rfl hb) rda_c isT2
theorem does_ri14 (T : Txt K mg D) (hr : roomRi D 5 s cdv A) : DoesR (cxRi P w K mg base D cdv A outer s H E) [stRi 14] (PreRi H0 a b) (fun v H' => v = .bl true ∧ Same H0 H') := by
  have G8 := ok_seInit (P := P) (w := w) (base := base) T
  have M3 := (ok_seShows (P := P) (w := w) (base := base) T).mono (j := 5) (by decide)
  have hr2 : Room 2 _ := hr.mono (by decide)
  refine ⟨_, pss_one (ps_ret (pe_not (pe_me (pe_mk T.cSe.mkr G8 hr2 T.cSe.gl (pa_cons (pe_lst (pa_cons pe_int (pa_cons pe_int pa_nil))) (pa_cons (pe_lst (pa_cons pe_int pa_nil)) pa_nil))) T.cSe.cl T.seShows M3 hr (pa_cons (pv 1) (pa_cons pe_int pa_nil))))), ?_⟩
  rintro Dn σ H1 ⟨v2, v3, v4, v5, v6, v7, v8, rfl, s1, ha, hb⟩ k
  refine rda_not (b := false) (c := true) ?_ rfl H1 (Same.refl H1) _ fun x H2 s2 e => k _ _ ⟨e, s1.trans s2⟩
  rw [← se_e6]
  exact rda_seShows (rda_mkSe (rda_nats [0, 1] (fun _ _ q => q) (by decide)) (rda_ints [3] (fun _ _ q => q) (by decide))) (rda_vtab rfl hb) rda_c isT2
/-! ### _law_rings_promises -/
def spRings : Sp := fun vs H Q _ => ∃ a b : Addr, vs = [.ref a, .ref b] ∧ Tab H a T1 ∧ Tab H b T2 ∧ ∀ H', Same H H' → Q (.bl true) H'
theorem ok_rings (T : Txt K mg D) : Prom P w K mg base 6 D.rings ["_law_table", "_law_alike"] spRings := by
  obtain ⟨fd, F⟩ := T.rings.fn
  refine ⟨⟨fd, ?_, F.binds fun _ _ _ _ _ _ us hl => match us, hl with | [_, _], _ => rfl⟩, F.kp⟩
  refine F.ok scRings (fun vs H Q E h => ?_) (fun cdv A outer s H vs Q E hr h => ?_)
  · obtain ⟨a, b, rfl, _⟩ := h
    rfl
  · obtain ⟨a, b, rfl, ha, hb, k⟩ := h
    have all : DoesR (cxRi P w K mg base D cdv A outer s H E) (defBody sRings) (PreRi H a b) (fun v H' => v = .bl true ∧ Same H H') :=
      does_ri0.next (does_ri1.next ((does_ri2 T hr).next ((does_ri3 T hr).next (does_ri4.next ((does_ri5 T hr).next ((does_ri6 T hr).next (does_ri7.next (does_ri8.next ((does_ri9 T hr).next ((does_ri10 T hr).next ((does_ri11 T hr).next ((does_ri12 T hr).next ((does_ri13 T hr).next (does_ri14 T hr))))))))))))))
    obtain ⟨t, h1, h2⟩ := all
    refine ⟨t, h1, h2 _ _ _ ⟨none, none, none, none, none, none, none, rfl, Same.refl H, ha, hb⟩ ?_⟩
    rintro v H' ⟨rfl, s⟩
    exact k H' s
end
end RP
namespace RP
open PySem PySem.Spec PyProof.Rows L2
section
variable {P : Program} {w : World} {K : PySem.W.Frag} {mg : Str → Option Value} {base : Heap} {D : Adr}
/-! ### _law_promises_right, statement by statement -/
abbrev nmProm : List Str := ["_law_table", "_law_alike", "_law_rent", "_law_prices", "_law_due", "_law_cases"]
theorem scProm : FnScope nmProm [] (defScope sPromises) := ⟨rfl, rfl, rfl, by decide +kernel, rfl, by decide +kernel, by decide +kernel⟩
abbrev cxPm (P : Program) (w : World) (K : PySem.W.Frag) (mg : Str → Option Value) (base : Heap) (D : Adr) (cdv : Value) (A : Around) (outer : List Env) (s : Shared) (H : Hp) (E : XK) : Cx := (cxOf CX0 P w K mg base nmProm "_law_promises_right" (defScope sPromises) D.promises cdv A outer s H E).nox
abbrev roomPm (D : Adr) (k : Nat) (s : Shared) (cdv : Value) (A : Around) : Prop := Room k (A.deeper (envOfC "_law_promises_right" (defScope sPromises) s.heap.objs.size D.promises cdv))
abbrev stPm (i : Nat) : Stmt := (defBody sPromises).getD i (.Pass ⟨0, 0, 0, 0⟩)
def PrePm (H0 : Hp) (σ : L2.St) (H : Hp) : Prop := ∃ (a b : Addr) (v2 v3 v4 v5 : Option V), σ = [some (.ref a), some (.ref b), v2, v3, v4, v5] ∧ Same H0 H ∧ Tab H a T1 ∧ Tab H b T2
def PrePmC (cs : List (Int × List Int × Bool)) (H0 : Hp) (σ : L2.St) (H : Hp) : Prop := ∃ (a b c : Addr) (xs : List V) (v2 v3 v4 : Option V), σ = [some (.ref a), some (.ref b), v2, v3, v4, some (.ref c)] ∧ Same H0 H ∧ Tab H a T1 ∧ Tab H b T2 ∧ H c = some (.lst xs) ∧ Paired (CaseF H) xs cs
def Pre0 (H0 : Hp) (σ : L2.St) (H : Hp) : Prop := σ = [none, none, none, none, none, none] ∧ Same H0 H
theorem prePm_same {H0 : Hp} {σ : L2.St} {H H' : Hp} (h : PrePm H0 σ H) (s : Same H H') : PrePm H0 σ H' := by
  obtain ⟨a, b, v2, v3, v4, v5, e, s1, ha, hb⟩ := h
  exact ⟨a, b, v2, v3, v4, v5, e, s1.trans s, ha.same s, hb.same s⟩
abbrev fc0 : List (Int × List Int × Bool) := [(7, [7], true), (7, [6], false), (-3, [-3], true), (0, [0], true)]
abbrev fc1 : List (Int × List Int × Bool) := [(4, [8, 0], true), (4, [4, 4], true), (4, [9, -1], false), (4, [3, 5], false)]
abbrev fc2 : List (Int × List Int × Bool) := [(5, [5, 5], true), (4, [8, 1], false), (0, [4, -4], true)]
theorem fc0_ok : ∀ c ∈ fc0, areFit [[4]] c.1 [0] c.2.1 = c.2.2 ∧ c.2.1.length = 1 := by decide +kernel
theorem fc12_ok : ∀ c ∈ fc1 ++ fc2, areFit T1 c.1 [0, 1] c.2.1 = c.2.2 ∧ c.2.1.length = 2 := by decide +kernel
variable {cdv : Value} {A : Around} {outer : List Env} {s : Shared} {H : Hp} {E : XK} {H0 : Hp}
theorem does_pm0 : Does (cxPm P w K mg base D cdv A outer s H E) (stPm 0) (Pre0 H0) (PrePm H0) := by
  have nd := scProm.nd
  refine ⟨_, ps_par (i := 0) (j := 1) (by rfl) nd rfl rfl (by decide) rfl rfl (pa_cons (pe_lst (pa_cons (pe_lst (pa_cons pe_int (pa_cons pe_int pa_nil))) (pa_cons (pe_lst (pa_cons pe_int (pa_cons pe_int pa_nil))) pa_nil)))
    (pa_cons (pe_lst (pa_cons (pe_lst (pa_cons pe_int (pa_cons pe_int pa_nil))) (pa_cons (pe_lst (pa_cons pe_int (pa_cons pe_int pa_nil))) pa_nil))) pa_nil)) (by rfl), ?_⟩
  rintro Dn σ H1 ⟨rfl, s1⟩ k
  unfold tPar
  refine rd_tab (T := T1) ?_ (by decide) fun H2 a s2 ha => ?_
  · exact rows_cons [5, 1] (fun _ _ q => q) (by decide) (rows_cons [2, 2] (fun _ _ q => q) (by decide) items_nil)
  refine rd_tab (T := T2) ?_ (by decide) fun H3 b s3 hb => ?_
  · exact rows_cons [3, 3] (fun _ _ q => q) (by decide) (rows_cons [3, 3] (fun _ _ q => q) (by decide) items_nil)
  exact ⟨_, _, rfl, k _ _ ⟨a, b, _, _, _, _, rfl, s1.trans (s2.trans s3), ha.same s3, hb⟩⟩
theorem neV {u v : V} (e : u = v) : (!decide (u = v)) = false := by rw [decide_eq_true e]; rfl
theorem rda_t4 {σ : L2.St} : RdA σ H (tLst (tCons (tLst (tCons (tC (.int 4)) tNil)) tNil)) (IsTb [[4]]) := rda_tab (fun H1 _ => rows_cons [4] (fun _ _ q => q) (by decide) items_nil) (by decide)
theorem does_pm1 (T : Txt K mg D) (hr : roomPm D 6 s cdv A) : Does (cxPm P w K mg base D cdv A outer s H E) (stPm 1) (PrePm H0) (PrePm H0) := by
  have G3 := (ok_worth (P := P) (w := w) (base := base) T).mono (j := 6) (by decide)
  have G4 := (ok_most (P := P) (w := w) (base := base) T).mono (j := 6) (by decide)
  refine does_if (PW.pt (pw_or (pt_cmpR op_ne (pe_cl G3 hr T.worth.gl (pa_cons (pv 0) (pa_cons (pe_lst (pa_cons pe_int (pa_cons pe_int pa_nil))) pa_nil))) pe_int (nomark _))
    (pw_or (pt_cmpR op_ne (pe_cl G3 hr T.worth.gl (pa_cons (pv 0) (pa_cons (pe_lst (pa_cons pe_int (pa_cons pe_int pa_nil))) pa_nil))) pe_int (nomark _))
    (pw_or (pt_cmpR op_ne (pe_cl G4 hr T.most.gl (pa_cons (pv 0) pa_nil)) pe_int (nomark _))
    (pw_or1 (pt_cmpR op_ne (pe_cl G4 hr T.most.gl (pa_cons (pe_lst (pa_cons (pe_lst (pa_cons (pe_un un_neg pe_int) pa_nil)) pa_nil)) pa_nil)) (pe_un un_neg pe_int) (nomark _))))))) (pss_one (ps_ret pe_bl)) ?_
  intro σ H1 h
  refine ⟨?_, fun H' s => prePm_same h s⟩
  obtain ⟨a, b, v2, v3, v4, v5, rfl, s1, ha, hb⟩ := h
  have e1 : worth T1 [0, 1] = 7 := by decide +kernel
  have e2 : worth T1 [1, 0] = 3 := by decide +kernel
  have e3 : most T1 = 7 := by decide +kernel
  have e4 : most [[-4]] = -4 := by decide +kernel
  refine tta_or ?_ (tta_or ?_ (tta_or ?_ ?_))
  · exact tta_ne (rda_worth (rda_vtab rfl ha) (rda_nats [0, 1] (fun _ _ q => q) (by decide)) isT1 giving01) rda_c rfl (neV (congrArg V.int e1))
  · exact tta_ne (rda_worth (rda_vtab rfl ha) (rda_nats [1, 0] (fun _ _ q => q) (by decide)) isT1 giving10) rda_c rfl (neV (congrArg V.int e2))
  · exact tta_ne (rda_most (rda_vtab rfl ha) isT1) rda_c rfl (neV (congrArg V.int e3))
  · exact tta_ne (rda_most (rda_tab (fun H1 _ => rows_cons [-4] (fun _ _ q => ⟨_, rfl, q⟩) (by decide) items_nil) (by decide)) (isT4 (-4))) (rda_neg rfl) rfl (neV (congrArg V.int e4))
theorem does_pm2 (T : Txt K mg D) (hr : roomPm D 6 s cdv A) : Does (cxPm P w K mg base D cdv A outer s H E) (stPm 2) (PrePm H0) (PrePm H0) := by
  have G4 := (ok_most (P := P) (w := w) (base := base) T).mono (j := 6) (by decide)
  refine does_if (pt_cmpR op_ne (pe_cl G4 hr T.most.gl (pa_cons (pe_lst (pa_cons (pe_lst (pa_cons pe_int (pa_cons (pe_un un_neg pe_int) pa_nil))) (pa_cons (pe_lst (pa_cons pe_int (pa_cons (pe_un un_neg pe_int) pa_nil))) pa_nil))) pa_nil)) (pe_un un_neg pe_int) (nomark _)) (pss_one (ps_ret pe_bl)) ?_
  intro σ H1 h
  refine ⟨?_, fun H' s => prePm_same h s⟩
  have e4 : most [[0, -1], [0, -5]] = -1 := by decide +kernel
  exact tta_ne (rda_most (rda_tab (fun H1 _ => rows_cons [0, -1] (fun _ _ q => ⟨_, rfl, q⟩) (by decide) (rows_cons [0, -5] (fun _ _ q => ⟨_, rfl, q⟩) (by decide) items_nil)) (by decide)) (isTab2 _ _ _ _)) (rda_neg rfl) rfl (neV (congrArg V.int e4))
theorem does_pm3 (T : Txt K mg D) (hr : roomPm D 6 s cdv A) : Does (cxPm P w K mg base D cdv A outer s H E) (stPm 3) (PrePm H0) (PrePm H0) := by
  have nd := scProm.nd
  have G9 := (ok_fit (P := P) (w := w) (base := base) T).mono (j := 6) (by decide)
  have G6 := ok_prInit (P := P) (w := w) (base := base) T
  have M1 := (ok_prShows (P := P) (w := w) (base := base) T).mono (j := 6) (by decide)
  have hr2 : Room 2 _ := hr.mono (by decide)
  refine ⟨_, ps_for PassesOwn.never rfl (pi_list (pe_lst
    (pa_cons (pe_tup (pa_cons pe_int (pa_cons (pe_lst (pa_cons pe_int pa_nil)) (pa_cons pe_bl pa_nil))))
    (pa_cons (pe_tup (pa_cons pe_int (pa_cons (pe_lst (pa_cons pe_int pa_nil)) (pa_cons pe_bl pa_nil))))
    (pa_cons (pe_tup (pa_cons (pe_un un_neg pe_int) (pa_cons (pe_lst (pa_cons (pe_un un_neg pe_int) pa_nil)) (pa_cons pe_bl pa_nil))))
    (pa_cons (pe_tup (pa_cons pe_int (pa_cons (pe_lst (pa_cons pe_int pa_nil)) (pa_cons pe_bl pa_nil)))) pa_nil))))))
    (pg_tup rfl (pgs_cons (pg_name (i := 2) nd rfl (Or.inl rfl)) (pgs_cons (pg_name (i := 3) nd rfl (Or.inl rfl)) (pgs_cons (pg_name (i := 4) nd rfl (Or.inl rfl)) pgs_nil))))
    (pss_one (ps_if (PW.pt (pw_or (pt_cmpR op_ne (pe_cl G9 hr T.fit.gl (pa_cons (pe_lst (pa_cons (pe_lst (pa_cons pe_int pa_nil)) pa_nil)) (pa_cons (pv 2) (pa_cons (pe_lst (pa_cons pe_int pa_nil)) (pa_cons (pv 3) pa_nil))))) (pv 4) (nomark _))
      (pw_or1 (pt_cmpR op_ne (pe_me (pe_mk T.cPr.mkr G6 hr2 T.cPr.gl (pa_cons (pv 3) pa_nil)) T.cPr.cl T.prShows M1 hr (pa_cons (pe_lst (pa_cons (pe_lst (pa_cons pe_int pa_nil)) pa_nil)) (pa_cons (pv 2) (pa_cons (pe_lst (pa_cons pe_int pa_nil)) pa_nil)))) (pv 4) (nomark _))))) (pss_one (ps_ret pe_bl)) pss_nil)), ?_⟩
  rintro Dn σ H1 ⟨a, b, v2, v3, v4, v5, rfl, s1, ha, hb⟩ k
  unfold tFor iList
  dsimp only
  refine items_lst CaseF.s (cs := fc0) ?_ (by decide) fun H2 c xs s2 hc hp => ?_
  · exact items_cons CaseF.s (caseF_rd (7, [7], true) (fun _ _ q => q) (fun _ _ q => q) (by decide)) (items_cons CaseF.s (caseF_rd (7, [6], false) (fun _ _ q => q) (fun _ _ q => q) (by decide))
      (items_cons CaseF.s (caseF_rd (-3, [-3], true) (fun _ _ q => ⟨_, rfl, q⟩) (fun _ _ q => ⟨_, rfl, q⟩) (by decide)) (items_cons CaseF.s (caseF_rd (0, [0], true) (fun _ _ q => q) (fun _ _ q => q) (by decide)) items_nil)))
  refine ⟨c, rfl, ⟨_, SqL.of hc⟩, for_list (K := K) (a := c) (xs := xs) (fun i σ H' => ∃ v2 v3 v4 : Option V, σ = [some (.ref a), some (.ref b), v2, v3, v4, v5] ∧ Same H2 H') ⟨v2, v3, v4, rfl, Same.refl H2⟩ (fun i σ H' _ ⟨_, _, _, _, s2⟩ => SqL.of (s2 _ _ hc)) ?_ ?_⟩
  · rintro i x σ H3 hx ⟨u2, u3, u4, rfl, s3⟩
    obtain ⟨cse, hcs, t, l, rfl, ht, hl⟩ := paired_get hp hx
    obtain ⟨e1, e2⟩ := fc0_ok cse (List.mem_of_getElem? hcs)
    have s23 := s2.trans s3
    refine ⟨t, _, rfl, SqT.of (s3 _ _ ht), rfl, _, _, rfl, _, _, rfl, _, _, rfl, rfl, ?_⟩
    dsimp only [gName, List.set]
    refine ifS_of ?_ fun H4 s4 => ⟨_, _, _, rfl, s3.trans s4⟩
    refine tta_or ?_ ?_
    · exact tta_ne (rda_fit rda_t4 (rda_var rfl) (rda_nats [0] (fun _ _ q => q) (by decide)) (rda_vints rfl (s3 _ _ hl)) (isT4 4) giving0 e2) (rda_var rfl) rfl (neV (congrArg V.bl e1))
    · exact tta_ne (rda_prShows (rda_mkPr (rda_vints rfl (s3 _ _ hl))) rda_t4 (rda_var rfl) (rda_nats [0] (fun _ _ q => q) (by decide)) (isT4 4) giving0 e2) (rda_var rfl) rfl (neV (congrArg V.bl e1))
  · rintro σ H3 ⟨u2, u3, u4, rfl, s3⟩
    exact k _ _ ⟨_, _, _, _, _, _, rfl, s1.trans (s2.trans s3), ha.same (s2.trans s3), hb.same (s2.trans s3)⟩
theorem does_pm4 : Does (cxPm P w K mg base D cdv A outer s H E) (stPm 4) (PrePm H0) (PrePmC fc1 H0) := by
  have nd := scProm.nd
  refine ⟨_, ps_set (i := 5) nd rfl (Or.inl rfl) (pe_lst
    (pa_cons (pe_tup (pa_cons pe_int (pa_cons (pe_lst (pa_cons pe_int (pa_cons pe_int pa_nil))) (pa_cons pe_bl pa_nil))))
    (pa_cons (pe_tup (pa_cons pe_int (pa_cons (pe_lst (pa_cons pe_int (pa_cons pe_int pa_nil))) (pa_cons pe_bl pa_nil))))
    (pa_cons (pe_tup (pa_cons pe_int (pa_cons (pe_lst (pa_cons pe_int (pa_cons (pe_un un_neg pe_int) pa_nil))) (pa_cons pe_bl pa_nil))))
    (pa_cons (pe_tup (pa_cons pe_int (pa_cons (pe_lst (pa_cons pe_int (pa_cons pe_int pa_nil))) (pa_cons pe_bl pa_nil)))) pa_nil))))), ?_⟩
  rintro Dn σ H1 ⟨a, b, v2, v3, v4, v5, rfl, s1, ha, hb⟩ k
  refine items_lst CaseF.s (cs := fc1) (items_cons CaseF.s (caseF_rd (4, [8, 0], true) (fun _ _ q => q) (fun _ _ q => q) (by decide)) (items_cons CaseF.s (caseF_rd (4, [4, 4], true) (fun _ _ q => q) (fun _ _ q => q) (by decide))
    (items_cons CaseF.s (caseF_rd (4, [9, -1], false) (fun _ _ q => q) (fun _ _ q => ⟨_, rfl, q⟩) (by decide)) (items_cons CaseF.s (caseF_rd (4, [3, 5], false) (fun _ _ q => q) (fun _ _ q => q) (by decide)) items_nil)))) (by decide) fun H2 c xs s2 hc hp => ?_
  exact k _ _ ⟨a, b, c, xs, _, _, _, rfl, s1.trans s2, ha.same s2, hb.same s2, hc, hp⟩
theorem does_pm5 : Does (cxPm P w K mg base D cdv A outer s H E) (stPm 5) (PrePmC fc1 H0) (PrePmC (fc1 ++ fc2) H0) := by
  have nd := scProm.nd
  refine ⟨_, ps_set (i := 5) nd rfl (Or.inl rfl) (pe_op op_cat (pv 5) (pe_lst
    (pa_cons (pe_tup (pa_cons pe_int (pa_cons (pe_lst (pa_cons pe_int (pa_cons pe_int pa_nil))) (pa_cons pe_bl pa_nil))))
    (pa_cons (pe_tup (pa_cons pe_int (pa_cons (pe_lst (pa_cons pe_int (pa_cons pe_int pa_nil))) (pa_cons pe_bl pa_nil))))
    (pa_cons (pe_tup (pa_cons pe_int (pa_cons (pe_lst (pa_cons pe_int (pa_cons (pe_un un_neg pe_int) pa_nil))) (pa_cons pe_bl pa_nil)))) pa_nil))))), ?_⟩
  rintro Dn σ H1 ⟨a, b, c, xs, v2, v3, v4, rfl, s1, ha, hb, hc, hp⟩ k
  refine ⟨_, rfl, items_lst CaseF.s (cs := fc2) (items_cons CaseF.s (caseF_rd (5, [5, 5], true) (fun _ _ q => q) (fun _ _ q => q) (by decide)) (items_cons CaseF.s (caseF_rd (4, [8, 1], false) (fun _ _ q => q) (fun _ _ q => q) (by decide))
    (items_cons CaseF.s (caseF_rd (0, [4, -4], true) (fun _ _ q => q) (fun _ _ q => ⟨_, rfl, q⟩) (by decide)) items_nil))) (by decide) fun H2 l ys s2 hl hq => ?_⟩
  have l1 := Paired.length hp
  have l2 := Paired.length hq
  have big : (64 : Nat) ≤ sizeLine := by decide
  refine ⟨c, l, xs, ys, rfl, rfl, s2 _ _ hc, hl, by rw [l1, l2]; show 4 + 3 ≤ sizeLine; omega, fun p np => ?_⟩
  have s3 := same_new (o := .lst (xs ++ ys)) np
  have s13 := s2.trans s3
  exact k _ _ ⟨a, b, p, xs ++ ys, _, _, _, rfl, s1.trans s13, ha.same s13, hb.same s13, upd_same, paired_app (Paired.mapP hp fun x y z => CaseF.s _ _ _ _ s13 z) (Paired.mapP hq fun x y z => CaseF.s _ _ _ _ s3 z)⟩
theorem does_pm6 (T : Txt K mg D) (hr : roomPm D 6 s cdv A) : Does (cxPm P w K mg base D cdv A outer s H E) (stPm 6) (PrePmC (fc1 ++ fc2) H0) (PrePm H0) := by
  have nd := scProm.nd
  have G9 := (ok_fit (P := P) (w := w) (base := base) T).mono (j := 6) (by decide)
  have G6 := ok_prInit (P := P) (w := w) (base := base) T
  have M1 := (ok_prShows (P := P) (w := w) (base := base) T).mono (j := 6) (by decide)
  have hr2 : Room 2 _ := hr.mono (by decide)
  refine ⟨_, ps_for PassesOwn.never rfl (pi_list (pv 5))
    (pg_tup rfl (pgs_cons (pg_name (i := 2) nd rfl (Or.inl rfl)) (pgs_cons (pg_name (i := 3) nd rfl (Or.inl rfl)) (pgs_cons (pg_name (i := 4) nd rfl (Or.inl rfl)) pgs_nil))))
    (pss_one (ps_if (PW.pt (pw_or (pt_cmpR op_ne (pe_cl G9 hr T.fit.gl (pa_cons (pv 0) (pa_cons (pv 2) (pa_cons (pe_lst (pa_cons pe_int (pa_cons pe_int pa_nil))) (pa_cons (pv 3) pa_nil))))) (pv 4) (nomark _))
      (pw_or1 (pt_cmpR op_ne (pe_me (pe_mk T.cPr.mkr G6 hr2 T.cPr.gl (pa_cons (pv 3) pa_nil)) T.cPr.cl T.prShows M1 hr (pa_cons (pv 0) (pa_cons (pv 2) (pa_cons (pe_lst (pa_cons pe_int (pa_cons pe_int pa_nil))) pa_nil)))) (pv 4) (nomark _))))) (pss_one (ps_ret pe_bl)) pss_nil)), ?_⟩
  rintro Dn σ H2 ⟨a, b, c, xs, v2, v3, v4, rfl, s1, ha, hb, hc, hp⟩ k
  refine ⟨_, rfl, c, rfl, ⟨_, SqL.of hc⟩, for_list (K := K) (a := c) (xs := xs) (fun i σ H' => ∃ v2 v3 v4 : Option V, σ = [some (.ref a), some (.ref b), v2, v3, v4, some (.ref c)] ∧ Same H2 H') ⟨v2, v3, v4, rfl, Same.refl H2⟩ (fun i σ H' _ ⟨_, _, _, _, s2⟩ => SqL.of (s2 _ _ hc)) ?_ ?_⟩
  · rintro i x σ H3 hx ⟨u2, u3, u4, rfl, s3⟩
    obtain ⟨cse, hcs, t, l, rfl, ht, hl⟩ := paired_get hp hx
    obtain ⟨e1, e2⟩ := fc12_ok cse (List.mem_of_getElem? hcs)
    refine ⟨t, _, rfl, SqT.of (s3 _ _ ht), rfl, _, _, rfl, _, _, rfl, _, _, rfl, rfl, ?_⟩
    dsimp only [gName, List.set]
    refine ifS_of ?_ fun H4 s4 => ⟨_, _, _, rfl, s3.trans s4⟩
    refine tta_or ?_ ?_
    · exact tta_ne (rda_fit (rda_vtab rfl (ha.same s3)) (rda_var rfl) (rda_nats [0, 1] (fun _ _ q => q) (by decide)) (rda_vints rfl (s3 _ _ hl)) isT1 giving01 e2) (rda_var rfl) rfl (neV (congrArg V.bl e1))
    · exact tta_ne (rda_prShows (rda_mkPr (rda_vints rfl (s3 _ _ hl))) (rda_vtab rfl (ha.same s3)) (rda_var rfl) (rda_nats [0, 1] (fun _ _ q => q) (by decide)) isT1 giving01 e2) (rda_var rfl) rfl (neV (congrArg V.bl e1))
  · rintro σ H3 ⟨u2, u3, u4, rfl, s3⟩
    exact k _ _ ⟨_, _, _, _, _, _, rfl, s1.trans s3, ha.same s3, hb.same s3⟩
end
end RP
namespace RP
open PySem PySem.Spec PyProof.Rows L2
section
variable {P : Program} {w : World} {K : PySem.W.Frag} {mg : Str → Option Value} {base : Heap} {D : Adr}
variable {σ : L2.St} {H : Hp} {t t1 t2 : TE} {tl : TA}
theorem rda_hasNo {TT : List (List Int)} (r : RdA σ H t (IsTb TT)) (ht : IsTab TT) (h2 : TT.length = 2) (hb : barring TT [1, 0] ≠ none) : RdA σ H (tCall spHasNo [] E0 (tCons t tNil)) (IsV (.bl true)) := fun H1 s Q k =>
  r H1 s _ fun x H2 s2 ⟨a, e, ha⟩ => ⟨a, TT, by rw [e]; rfl, ha, ht, h2, hb, fun H' s3 => k _ H' (s2.trans s3) rfl⟩
theorem tta_isRi (T : Txt K mg D) {p : List Nat} (r : RdA σ H t (IsTd D (.ring p))) : TtA σ H (tB (tCB (rIsi K) (tCons t (tCons (tC (.ref D.cRi)) tNil)))) true := fun H1 s Q k =>
  r H1 s _ fun x H2 s2 ⟨q, e, hq⟩ => by
    obtain ⟨dx, l, h1, h2⟩ := hq
    refine ⟨_, _, _, _, true, rfl, .own _, ?_, T.isRiRi, true, rfl, k _ s2⟩
    rw [e]
    exact .base (.ins h1 T.cRi.cl T.cRi.ha T.cget T.ctk T.cRi.mr)
theorem tta_isPr (T : Txt K mg D) {ps : List Int} (r : RdA σ H t (IsTd D (.priced ps))) : TtA σ H (tB (tCB (rIsi K) (tCons t (tCons (tC (.ref D.cPr)) tNil)))) true := fun H1 s Q k =>
  r H1 s _ fun x H2 s2 ⟨q, e, hq⟩ => by
    obtain ⟨dx, l, h1, h2⟩ := hq
    refine ⟨_, _, _, _, true, rfl, .own _, ?_, T.isPrPr, true, rfl, k _ s2⟩
    rw [e]
    exact .base (.ins h1 T.cPr.cl T.cPr.ha T.cget T.ctk T.cPr.mr)
theorem told_ring {TT : List (List Int)} {g : List Nat} {rent : Int} (h : barring TT g ≠ none) : ∃ p, told TT rent g = .ring p := by
  unfold told
  cases e : barring TT g with
  | none => exact absurd e h
  | some around => exact ⟨_, rfl⟩
theorem told_priced {TT : List (List Int)} {g : List Nat} {rent : Int} (h : barring TT g = none) : told TT rent g = .priced (pricesOf TT rent g) := by
  unfold told
  rw [h]
theorem bar_1 : barring T1 [0, 1] = none := by decide +kernel
theorem bar_2 : barring T1 [1, 0] ≠ none := by decide +kernel
theorem bar_3 : barring T2 [1, 0] = none := by decide +kernel
theorem bar_4 : barring [[4]] [0] = none := by decide +kernel
variable {cdv : Value} {A : Around} {outer : List Env} {s : Shared} {E : XK} {H0 : Hp}
theorem does_pm7 (T : Txt K mg D) (hr : roomPm D 6 s cdv A) : Does (cxPm P w K mg base D cdv A outer s H E) (stPm 7) (PrePm H0) (PrePm H0) := by
  have G5 := (ok_between (P := P) (w := w) (base := base) T).mono (j := 6) (by decide)
  have hu : (cxPm P w K mg base D cdv A outer s H E).A.units + 64 < cLine := by
    have := hr.un
    show (A.deeper _).units + 64 < cLine
    omega
  refine does_if (PW.pt (pw_or (pt_cmpR (op_neD hu) (pe_cl G5 hr T.between.gl (pa_cons (pv 0) (pa_cons pe_int (pa_cons (pe_lst (pa_cons pe_int (pa_cons pe_int pa_nil))) (pa_cons pe_int pa_nil))))) (pe_tup (pa_cons pe_int (pa_cons pe_int pa_nil))) (nomark _))
    (pw_or1 (pt_cmpR (op_neD hu) (pe_cl G5 hr T.between.gl (pa_cons (pv 0) (pa_cons pe_int (pa_cons (pe_lst (pa_cons pe_int (pa_cons pe_int pa_nil))) (pa_cons pe_int pa_nil))))) (pe_tup (pa_cons pe_int (pa_cons pe_int pa_nil))) (nomark _))))) (pss_one (ps_ret pe_bl)) ?_
  intro σ H1 h
  refine ⟨?_, fun H' s => prePm_same h s⟩
  obtain ⟨a, b, v2, v3, v4, v5, rfl, s1, ha, hb⟩ := h
  have e1 : least T1 4 [0, 1] 0 = 4 ∧ greatest T1 4 [0, 1] 0 = 8 := by decide +kernel
  have e2 : least T1 4 [0, 1] 1 = 0 ∧ greatest T1 4 [0, 1] 1 = 4 := by decide +kernel
  refine tta_or ?_ ?_
  · exact tta_pair (i := 4) (j := 8) (rda_between 0 (rda_vtab rfl ha) rda_c (rda_nats [0, 1] (fun _ _ q => q) (by decide)) rda_c isT1 giving01 (by decide) bar_1 e1.1 e1.2) (rda_pair rda_c rda_c)
  · exact tta_pair (i := 0) (j := 4) (rda_between 1 (rda_vtab rfl ha) rda_c (rda_nats [0, 1] (fun _ _ q => q) (by decide)) rda_c isT1 giving01 (by decide) bar_1 e2.1 e2.2) (rda_pair rda_c rda_c)
theorem does_pm8 (T : Txt K mg D) (hr : roomPm D 6 s cdv A) : Does (cxPm P w K mg base D cdv A outer s H E) (stPm 8) (PrePm H0) (PrePm H0) := by
  have G5 := (ok_between (P := P) (w := w) (base := base) T).mono (j := 6) (by decide)
  have hu : (cxPm P w K mg base D cdv A outer s H E).A.units + 64 < cLine := by
    have := hr.un
    show (A.deeper _).units + 64 < cLine
    omega
  refine does_if (pt_cmpR (op_neD hu) (pe_cl G5 hr T.between.gl (pa_cons (pe_lst (pa_cons (pe_lst (pa_cons pe_int pa_nil)) pa_nil)) (pa_cons pe_int (pa_cons (pe_lst (pa_cons pe_int pa_nil)) (pa_cons pe_int pa_nil))))) (pe_tup (pa_cons pe_int (pa_cons pe_int pa_nil))) (nomark _)) (pss_one (ps_ret pe_bl)) ?_
  intro σ H1 h
  refine ⟨?_, fun H' s => prePm_same h s⟩
  have e1 : least [[4]] 7 [0] 0 = 7 ∧ greatest [[4]] 7 [0] 0 = 7 := by decide +kernel
  exact tta_pair (i := 7) (j := 7) (rda_between 0 rda_t4 rda_c (rda_nats [0] (fun _ _ q => q) (by decide)) rda_c (isT4 4) giving0 (by decide) bar_4 e1.1 e1.2) (rda_pair rda_c rda_c)
theorem does_pm9 (T : Txt K mg D) (hr : roomPm D 6 s cdv A) : Does (cxPm P w K mg base D cdv A outer s H E) (stPm 9) (PrePm H0) (PrePm H0) := by
  have G5 := (ok_between (P := P) (w := w) (base := base) T).mono (j := 6) (by decide)
  have G6 := (ok_hasNo (P := P) (w := w) (base := base) T).mono (j := 6) (by decide)
  have hu : (cxPm P w K mg base D cdv A outer s H E).A.units + 64 < cLine := by
    have := hr.un
    show (A.deeper _).units + 64 < cLine
    omega
  refine does_if (PW.pt (pw_or (pt_cmpR (op_neD hu) (pe_cl G5 hr T.between.gl (pa_cons (pv 1) (pa_cons pe_int (pa_cons (pe_lst (pa_cons pe_int (pa_cons pe_int pa_nil))) (pa_cons pe_int pa_nil))))) (pe_tup (pa_cons pe_int (pa_cons pe_int pa_nil))) (nomark _))
    (pw_or1 (pt_not (pt_val (pe_cl G6 hr T.hasNo.gl (pa_cons (pv 0) pa_nil))))))) (pss_one (ps_ret pe_bl)) ?_
  intro σ H1 h
  refine ⟨?_, fun H' s => prePm_same h s⟩
  obtain ⟨a, b, v2, v3, v4, v5, rfl, s1, ha, hb⟩ := h
  have e1 : least T2 3 [1, 0] 0 = 3 ∧ greatest T2 3 [1, 0] 0 = 3 := by decide +kernel
  refine tta_or ?_ (tta_not (b := true) (tta_val ?_) rfl)
  · exact tta_pair (i := 3) (j := 3) (rda_between 0 (rda_vtab rfl hb) rda_c (rda_nats [1, 0] (fun _ _ q => q) (by decide)) rda_c isT2 giving10 (by decide) bar_3 e1.1 e1.2) (rda_pair rda_c rda_c)
  · exact rda_hasNo (rda_vtab rfl ha) isT1 rfl bar_2
theorem does_pm10 (T : Txt K mg D) (hr : roomPm D 6 s cdv A) : Does (cxPm P w K mg base D cdv A outer s H E) (stPm 10) (PrePm H0) (PrePm H0) := by
  have G1 := (ok_told (P := P) (w := w) (base := base) T).mono (j := 6) (by decide)
  refine does_if (pt_not (pt_val (pe_callB (isiK K) (by rfl) T.zIsi (by decide +kernel) (pa_cons (pe_cl G1 hr T.told.gl (pa_cons (pv 0) (pa_cons pe_int (pa_cons (pe_lst (pa_cons pe_int (pa_cons pe_int pa_nil))) pa_nil)))) (pa_cons (pe_glob (v := .ref D.cRi) (by rfl) T.cRi.gl rfl) pa_nil))))) (pss_one (ps_ret pe_bl)) ?_
  intro σ H1 h
  refine ⟨?_, fun H' s => prePm_same h s⟩
  obtain ⟨a, b, v2, v3, v4, v5, rfl, s1, ha, hb⟩ := h
  obtain ⟨p, e1⟩ := told_ring (rent := 4) bar_2
  refine tta_not (b := true) (tta_isRi T (p := p) ?_) rfl
  rw [← e1]
  exact rda_told (rda_vtab rfl ha) rda_c (rda_nats [1, 0] (fun _ _ q => q) (by decide)) isT1 giving10
theorem does_pm11 (T : Txt K mg D) (hr : roomPm D 6 s cdv A) : Does (cxPm P w K mg base D cdv A outer s H E) (stPm 11) (PrePm H0) (PrePm H0) := by
  have G1 := (ok_told (P := P) (w := w) (base := base) T).mono (j := 6) (by decide)
  refine does_if (PW.pt (pw_or (pt_not (pt_val (pe_callB (isiK K) (by rfl) T.zIsi (by decide +kernel) (pa_cons (pe_cl G1 hr T.told.gl (pa_cons (pv 0) (pa_cons pe_int (pa_cons (pe_lst (pa_cons pe_int (pa_cons pe_int pa_nil))) pa_nil)))) (pa_cons (pe_glob (v := .ref D.cPr) (by rfl) T.cPr.gl rfl) pa_nil)))))
    (pw_or1 (pt_not (pt_val (pe_callB (isiK K) (by rfl) T.zIsi (by decide +kernel) (pa_cons (pe_cl G1 hr T.told.gl (pa_cons (pv 1) (pa_cons pe_int (pa_cons (pe_lst (pa_cons pe_int (pa_cons pe_int pa_nil))) pa_nil)))) (pa_cons (pe_glob (v := .ref D.cPr) (by rfl) T.cPr.gl rfl) pa_nil)))))))) (pss_one (ps_ret pe_bl)) ?_
  intro σ H1 h
  refine ⟨?_, fun H' s => prePm_same h s⟩
  obtain ⟨a, b, v2, v3, v4, v5, rfl, s1, ha, hb⟩ := h
  refine tta_or (tta_not (b := true) (tta_isPr T (ps := pricesOf T1 5 [0, 1]) ?_) rfl) (tta_not (b := true) (tta_isPr T (ps := pricesOf T2 1 [1, 0]) ?_) rfl)
  · rw [← told_priced bar_1]
    exact rda_told (rda_vtab rfl ha) rda_c (rda_nats [0, 1] (fun _ _ q => q) (by decide)) isT1 giving01
  · rw [← told_priced bar_3]
    exact rda_told (rda_vtab rfl hb) rda_c (rda_nats [1, 0] (fun _ _ q => q) (by decide)) isT2 giving10
theorem does_pm12 (T : Txt K mg D) (hr : roomPm D 6 s cdv A) : DoesR (cxPm P w K mg base D cdv A outer s H E) [stPm 12] (PrePm H0) (fun v H' => v = .bl true ∧ Same H0 H') := by
  have G1 := ok_rings (P := P) (w := w) (base := base) T
  refine ⟨_, pss_one (ps_ret (pe_cl G1 hr T.rings.gl (pa_cons (pv 0) (pa_cons (pv 1) pa_nil)))), ?_⟩
  rintro Dn σ H1 ⟨a, b, v2, v3, v4, v5, rfl, s1, ha, hb⟩ k
  exact ⟨_, rfl, _, rfl, a, b, rfl, ha, hb, fun H' s2 => k _ _ ⟨rfl, s1.trans s2⟩⟩
/-! ### _law_promises_right -/
theorem ok_promises (T : Txt K mg D) : Prom P w K mg base 7 D.promises [] spPromises := by
  obtain ⟨fd, F⟩ := T.promises.fn
  refine ⟨⟨fd, ?_, F.binds fun _ _ _ _ _ _ us hl => match us, hl with | [], _ => rfl⟩, F.kp⟩
  refine F.ok scProm (fun vs H Q E h => ?_) (fun cdv A outer s H vs Q E hr h => ?_)
  · obtain ⟨rfl, _⟩ := h
    rfl
  · obtain ⟨rfl, k⟩ := h
    have all : DoesR (cxPm P w K mg base D cdv A outer s H E) (defBody sPromises) (Pre0 H) (fun v H' => v = .bl true ∧ Same H H') :=
      does_pm0.next ((does_pm1 T hr).next ((does_pm2 T hr).next ((does_pm3 T hr).next (does_pm4.next (does_pm5.next ((does_pm6 T hr).next ((does_pm7 T hr).next ((does_pm8 T hr).next ((does_pm9 T hr).next ((does_pm10 T hr).next ((does_pm11 T hr).next (does_pm12 T hr))))))))))))
    obtain ⟨t, h1, h2⟩ := all
    refine ⟨t, h1, h2 _ _ _ ⟨rfl, Same.refl H⟩ ?_⟩
    rintro v H' ⟨rfl, s⟩
    exact k H' s
end
end RP
namespace RP
open PySem PySem.Spec PyProof.Rows L2
/-! ### what the top has written, the head -/
section
variable {K : PySem.W.Frag} {mg : Str → Option Value} {h : Heap}
theorem def_mk {x : Str} {st : Stmt} {f : Addr} {oc : Value} {od an : Option Addr} {osl : Array (Option Value)} {kV doc pm cdv ct : Value} (X : K.In h) (G : h.Ns mainGlobals mg) (a : PySem.W.nsIn K mainGlobals x = some (some (.ref f)))
    (l : K.lookup f = some ⟨oc, od, .func (PySem.W.fnOf x x (defArgs st) (defBody st) (defScope st) .none kV doc pm an cdv ct), osl⟩) (c : PySem.W.codeIn K cdv x = true) (k : PySem.W.keepIn K (.ref f) = true) : DefAt K mg x st f := ⟨PySem.W.mg_of X G a, _, fun_mk l c k⟩
/-- a class with its __init__ and its one method -/
structure ClsX (K : PySem.W.Frag) (mg : Str → Option Value) (x : Str) (C fI fS : Addr) (qI qS : Str) (sI sS : Stmt) : Prop where
  c : ClsAt K mg x C fI qI sI
  m : Meth K C "shows" fS
  s : ∃ fd, Fun K "shows" qS sS fS fd
theorem cls_mk {x qI qS : Str} {sI sS : Stmt} {C fI fS : Addr} {oc oc2 : Value} {od an od2 an2 : Option Addr} {osl osl2 : Array (Option Value)} {kV doc pm cdv ct kV2 doc2 pm2 cdv2 ct2 : Value} (X : K.In h) (G : h.Ns mainGlobals mg) (a : PySem.W.nsIn K mainGlobals x = some (some (.ref C)))
    (pg : PySem.W.plainGet K C Str.empty = true) (hd : PySem.W.hasDictIn K C = true) (po : PySem.W.plainOver K C = true) (sa : PySem.W.findIn K (.ref C) "__setattr__" = some (some (.builtin "object.__setattr__"))) (mk : PySem.W.makesIn K C = true) (kc : PySem.W.keepIn K (.ref C) = true)
    (ha : PySem.W.findIn K (.ref C) "__class__" = some (some (.builtin "object.__class__"))) (mr : PySem.W.mroIn K C (.type "object") = some true)
    (i : PySem.W.findIn K (.ref C) "__init__" = some (some (.ref fI))) (fn : PySem.W.isFn K (.ref fI) = true) (l : K.lookup fI = some ⟨oc, od, .func (PySem.W.fnOf "__init__" qI (defArgs sI) (defBody sI) (defScope sI) .none kV doc pm an cdv ct), osl⟩) (c : PySem.W.codeIn K cdv qI = true) (k : PySem.W.keepIn K (.ref fI) = true)
    (i2 : PySem.W.findIn K (.ref C) "shows" = some (some (.ref fS))) (fn2 : PySem.W.isFn K (.ref fS) = true) (l2 : K.lookup fS = some ⟨oc2, od2, .func (PySem.W.fnOf "shows" qS (defArgs sS) (defBody sS) (defScope sS) .none kV2 doc2 pm2 an2 cdv2 ct2), osl2⟩) (c2 : PySem.W.codeIn K cdv2 qS = true) (k2 : PySem.W.keepIn K (.ref fS) = true) :
    ClsX K mg x C fI fS qI qS sI sS := ⟨⟨PySem.W.mg_of X G a, ⟨pg, hd, po, sa⟩, ⟨mk, i, fn, kc⟩, ⟨_, fun_mk l c k⟩, ha, mr⟩, ⟨i2, fn2, k2⟩, ⟨_, fun_mk l2 c2 k2⟩⟩
theorem kit_self {C : Addr} : PySem.W.kitOne K (.ref C) (.ref C) = some true := by
  have e : (Value.ref C == Value.ref C) = true := beq_self_eq_true _
  show (if (Value.ref C == Value.ref C) = true then some true else PySem.W.kitCls K (.ref C) (.ref C)) = some true
  rw [if_pos e]
theorem kit_other {C E : Addr} {b : Bool} (ne : ¬ E = C) (hdct : PySem.W.hasDictIn K C = true) (ht : PySem.W.typeIn K (.ref C) = some (.type "type")) (h4 : PySem.W.subIn K (.ref E) (.ref C) = some b) : PySem.W.kitOne K (.ref E) (.ref C) = some b := by
  obtain ⟨cd, hc, _⟩ := PySem.W.any_some hdct
  have e : (Value.ref E == Value.ref C) = false := beq_eq_false_iff_ne.mpr fun q => ne (by injection q)
  have e2 : ((PySem.W.clsIn K C).isSome && PySem.W.typeIn K (.ref C) == some (.type "type")) = true := by rw [hc, ht] <;> rfl
  show (if (Value.ref E == Value.ref C) = true then some true else if ((PySem.W.clsIn K C).isSome && PySem.W.typeIn K (.ref C) == some (.type "type")) = true then PySem.W.subIn K (.ref E) (.ref C) else none) = some b
  rw [e, if_neg Bool.false_ne_true, if_pos e2]
  exact h4
structure DefsAt (K : PySem.W.Frag) (mg : Str → Option Value) (D : Adr) : Prop where
  isNum : DefAt K mg "is_number" sIsNum D.isNum
  areNum : DefAt K mg "are_numbers" sAreNum D.areNum
  askT : DefAt K mg "asked_table" sAskT D.askT
  askR : DefAt K mg "asked_rent" sAskR D.askR
  askG : DefAt K mg "asked_giving" sAskG D.askG
  askP : DefAt K mg "asked_prices" sAskP D.askP
  areFit : DefAt K mg "are_fit" sAreFit D.areFit
  fit : DefAt K mg "fit" sFit D.fit
  worth : DefAt K mg "worth" sWorth D.worth
  owners : DefAt K mg "owners" sOwners D.owners
  gaps : DefAt K mg "gaps" sGaps D.gaps
  barring : DefAt K mg "barring" sBarring D.barring
  bounds : DefAt K mg "bounds" sBounds D.bounds
  toldOf : DefAt K mg "told_of" sToldOf D.toldOf
  told : DefAt K mg "told" sTold D.told
  between : DefAt K mg "between" sBetween D.between
  putIn : DefAt K mg "put_in" sPutIn D.putIn
  best : DefAt K mg "best" sBest D.best
  settled : DefAt K mg "settled" sSettled D.settled
  most : DefAt K mg "most" sMost D.most
  number : DefAt K mg "_law_number" sNumber D.number
  plain : DefAt K mg "_law_plain" sPlain D.plain
  truths : DefAt K mg "_law_truths" sTruths D.truths
  tabRight : DefAt K mg "_law_table_right" sTabRight D.tabRight
  hasNo : DefAt K mg "_law_has_no_prices" sHasNo D.hasNo
  promises : DefAt K mg "_law_promises_right" sPromises D.promises
  rings : DefAt K mg "_law_rings_promises" sRings D.rings
  law : DefAt K mg "law" sLaw D.law
structure ErrAt (K : PySem.W.Frag) (mg : Str → Option Value) (R N : Addr) : Prop where
  gRoE : mg "RoomError" = some (.ref R)
  gNoP : mg "NoPrices" = some (.ref N)
  xNoP : PySem.W.excIn K N [.type "ValueError", .type "Exception", .type "BaseException", .type "object"] "ValueError.__new__" = true
  kNoP : PySem.W.keepIn K (.ref N) = true
  tNoP : PySem.W.typeIn K (.ref N) = some (.type "type")
  eNoP : ExcC K N
  mNoP : PySem.W.exmOne K (.ref N) (.ref R) = some true
theorem err_mk {R N : Addr} (X : K.In h) (G : h.Ns mainGlobals mg) (a : PySem.W.nsIn K mainGlobals "RoomError" = some (some (.ref R))) (b : PySem.W.nsIn K mainGlobals "NoPrices" = some (some (.ref N)))
    (x : PySem.W.excIn K N [.type "ValueError", .type "Exception", .type "BaseException", .type "object"] "ValueError.__new__" = true) (k : PySem.W.keepIn K (.ref N) = true) (t : PySem.W.typeIn K (.ref N) = some (.type "type"))
    (hg : PySem.W.findIn K (.ref N) "__getattribute__" = some (some (.builtin "BaseException.__getattribute__"))) (hk : PySem.W.findIn K (.ref N) "__getattr__" = some none) (hs : PySem.W.subIn K (.ref N) (.type "BaseException") = some true) (hd : PySem.W.hasDictIn K N = true)
    (ha : PySem.W.findIn K (.ref N) "__class__" = some (some (.builtin "object.__class__"))) (hn : PySem.W.specialIn K (.builtin "object.__class__") "__get__" = some (some (.builtin "getset_descriptor.__get__"))) (ht : PySem.W.takesIn K (.builtin "object.__class__") = some true) (hm : PySem.W.mroIn K N (.type "object") = some true)
    (r1 : PySem.W.subIn K (.ref R) (.type "BaseException") = some true) (r2 : PySem.W.hasDictIn K R = true) (r3 : PySem.W.typeIn K (.ref R) = some (.type "type")) (r4 : PySem.W.subIn K (.ref N) (.ref R) = some true) : ErrAt K mg R N :=
  ⟨PySem.W.mg_of X G a, PySem.W.mg_of X G b, x, k, t, ⟨hg, hk, hs, hd, ha, hn, ht, hm⟩, PySem.W.exm_ref r1 r2 r3 r4⟩
/-- the names that the text leaves to the built-ins -/
structure ZAt (mg : Str → Option Value) : Prop where
  zIsi : mg "isinstance" = none
  zInt : mg "int" = none
  zBool : mg "bool" = none
  zList : mg "list" = none
  zTuple : mg "tuple" = none
  zStr : mg "str" = none
  zLen : mg "len" = none
  zAll : mg "all" = none
  zSorted : mg "sorted" = none
  zRange : mg "range" = none
  zSum : mg "sum" = none
  zEnum : mg "enumerate" = none
  zZip : mg "zip" = none
  zMax : mg "max" = none
  zMin : mg "min" = none
  zSet : mg "set" = none
  zAbs : mg "abs" = none
theorem z_mk (X : K.In h) (G : h.Ns mainGlobals mg) (zIsi : PySem.W.nsIn K mainGlobals "isinstance" = some none) (zInt : PySem.W.nsIn K mainGlobals "int" = some none) (zBool : PySem.W.nsIn K mainGlobals "bool" = some none) (zList : PySem.W.nsIn K mainGlobals "list" = some none) (zTuple : PySem.W.nsIn K mainGlobals "tuple" = some none) (zStr : PySem.W.nsIn K mainGlobals "str" = some none) (zLen : PySem.W.nsIn K mainGlobals "len" = some none) (zAll : PySem.W.nsIn K mainGlobals "all" = some none) (zSorted : PySem.W.nsIn K mainGlobals "sorted" = some none) (zRange : PySem.W.nsIn K mainGlobals "range" = some none) (zSum : PySem.W.nsIn K mainGlobals "sum" = some none) (zEnum : PySem.W.nsIn K mainGlobals "enumerate" = some none) (zZip : PySem.W.nsIn K mainGlobals "zip" = some none) (zMax : PySem.W.nsIn K mainGlobals "max" = some none) (zMin : PySem.W.nsIn K mainGlobals "min" = some none) (zSet : PySem.W.nsIn K mainGlobals "set" = some none) (zAbs : PySem.W.nsIn K mainGlobals "abs" = some none) : ZAt mg :=
  ⟨PySem.W.mg_none_of X G zIsi, PySem.W.mg_none_of X G zInt, PySem.W.mg_none_of X G zBool, PySem.W.mg_none_of X G zList, PySem.W.mg_none_of X G zTuple, PySem.W.mg_none_of X G zStr, PySem.W.mg_none_of X G zLen, PySem.W.mg_none_of X G zAll, PySem.W.mg_none_of X G zSorted, PySem.W.mg_none_of X G zRange, PySem.W.mg_none_of X G zSum, PySem.W.mg_none_of X G zEnum, PySem.W.mg_none_of X G zZip, PySem.W.mg_none_of X G zMax, PySem.W.mg_none_of X G zMin, PySem.W.mg_none_of X G zSet, PySem.W.mg_none_of X G zAbs⟩
theorem txt_mk {D : Adr} (d : DefsAt K mg D) (c1 : ClsX K mg "Priced" D.cPr D.prInit D.prShows "Priced.__init__" "Priced.shows" sPrInit sPrShows) (c2 : ClsX K mg "Ring" D.cRi D.riInit D.riShows "Ring.__init__" "Ring.shows" sRiInit sRiShows)
    (c3 : ClsX K mg "Settled" D.cSe D.seInit D.seShows "Settled.__init__" "Settled.shows" sSeInit sSeShows) (n1 : NoAttr K D.cPr "prices") (n2 : NoAttr K D.cRi "people") (n3 : NoAttr K D.cSe "rooms") (n4 : NoAttr K D.cSe "prices")
    (k1 : PySem.W.kitOne K (.ref D.cRi) (.ref D.cPr) = some false) (k2 : PySem.W.kitOne K (.ref D.cPr) (.ref D.cRi) = some false) (e : ErrAt K mg D.cRoomError D.cNoPrices) (hM : ∃ t, mg "MOST" = some (.int 12 t)) (z : ZAt mg) : Txt K mg D where
  isNum := d.isNum
  areNum := d.areNum
  askT := d.askT
  askR := d.askR
  askG := d.askG
  askP := d.askP
  areFit := d.areFit
  fit := d.fit
  worth := d.worth
  owners := d.owners
  gaps := d.gaps
  barring := d.barring
  bounds := d.bounds
  toldOf := d.toldOf
  told := d.told
  between := d.between
  putIn := d.putIn
  best := d.best
  settled := d.settled
  most := d.most
  number := d.number
  plain := d.plain
  truths := d.truths
  tabRight := d.tabRight
  hasNo := d.hasNo
  promises := d.promises
  rings := d.rings
  law := d.law
  cPr := c1.c
  cRi := c2.c
  cSe := c3.c
  prPrices := n1
  riPeople := n2
  seRooms := n3
  sePrices := n4
  prShows := c1.m
  riShows := c2.m
  seShows := c3.m
  prShowsF := c1.s
  riShowsF := c2.s
  seShowsF := c3.s
  cget := e.eNoP.hn
  ctk := e.eNoP.ht
  isPrPr := kit_self
  isRiPr := k1
  isPrRi := k2
  isRiRi := kit_self
  gRoE := e.gRoE
  gNoP := e.gNoP
  xNoP := e.xNoP
  kNoP := e.kNoP
  tNoP := e.tNoP
  eNoP := e.eNoP
  mNoP := e.mNoP
  isNoP := kit_self
  gMost := hM
  zIsi := z.zIsi
  zInt := z.zInt
  zBool := z.zBool
  zList := z.zList
  zTuple := z.zTuple
  zStr := z.zStr
  zLen := z.zLen
  zAll := z.zAll
  zSorted := z.zSorted
  zRange := z.zRange
  zSum := z.zSum
  zEnum := z.zEnum
  zZip := z.zZip
  zMax := z.zMax
  zMin := z.zMin
  zSet := z.zSet
  zAbs := z.zAbs
theorem most_mk {t : Nat} (X : K.In h) (G : h.Ns mainGlobals mg) (a : PySem.W.nsIn K mainGlobals "MOST" = some (some (.int 12 t))) : ∃ t, mg "MOST" = some (.int 12 t) := ⟨_, PySem.W.mg_of X G a⟩
theorem all_mk {l : PySem.W.OpenLaw} {w : World} {fa : Addr} {D : Adr} (hfa : mg "law" = some (.ref fa)) (T : Txt K mg D) :
    ∃ fd : FuncData, (∀ (s : Shared) (v : Value), BindsTo s fd ⟨[v], []⟩ [("_law_script", v)]) ∧ ∀ base : Heap, K.In base → base.Ns mainGlobals mg → FnOk l.prog w K mg base CX0 8 fa fd ["_law_script"] (spLaw K) := by
  have e := hfa.symm.trans T.law.gl
  cases e
  obtain ⟨fd, F⟩ := T.law.fn
  refine ⟨fd, fun s v => ?_, fun base _ _ => ok_lawF T (ok_promises T) F⟩
  obtain ⟨oc, od, kV, doc, pm, an, cdv, ct, osl, rfl, lk, hcd⟩ := F.ex
  exact .of_eq rfl
theorem all_mk2 {l : PySem.W.OpenLaw} {w : World} {fa : Addr} {f0 f1 f2 f3 f4 f5 f6 f7 f8 f9 f10 f11 f12 f13 f14 f15 f16 f17 f18 f19 f20 f21 f22 f23 f24 f25 f26 f27 cA cB cC iA sA iB sB iC sC R N : Addr} (hfa : mg "law" = some (.ref fa))
    (d0 : DefAt K mg "is_number" sIsNum f0)
    (d1 : DefAt K mg "are_numbers" sAreNum f1)
    (d2 : DefAt K mg "asked_table" sAskT f2)
    (d3 : DefAt K mg "asked_rent" sAskR f3)
    (d4 : DefAt K mg "asked_giving" sAskG f4)
    (d5 : DefAt K mg "asked_prices" sAskP f5)
    (d6 : DefAt K mg "are_fit" sAreFit f6)
    (d7 : DefAt K mg "fit" sFit f7)
    (d8 : DefAt K mg "worth" sWorth f8)
    (d9 : DefAt K mg "owners" sOwners f9)
    (d10 : DefAt K mg "gaps" sGaps f10)
    (d11 : DefAt K mg "barring" sBarring f11)
    (d12 : DefAt K mg "bounds" sBounds f12)
    (d13 : DefAt K mg "told_of" sToldOf f13)
    (d14 : DefAt K mg "told" sTold f14)
    (d15 : DefAt K mg "between" sBetween f15)
    (d16 : DefAt K mg "put_in" sPutIn f16)
    (d17 : DefAt K mg "best" sBest f17)
    (d18 : DefAt K mg "settled" sSettled f18)
    (d19 : DefAt K mg "most" sMost f19)
    (d20 : DefAt K mg "_law_number" sNumber f20)
    (d21 : DefAt K mg "_law_plain" sPlain f21)
    (d22 : DefAt K mg "_law_truths" sTruths f22)
    (d23 : DefAt K mg "_law_table_right" sTabRight f23)
    (d24 : DefAt K mg "_law_has_no_prices" sHasNo f24)
    (d25 : DefAt K mg "_law_promises_right" sPromises f25)
    (d26 : DefAt K mg "_law_rings_promises" sRings f26)
    (d27 : DefAt K mg "law" sLaw f27)
    (c1 : ClsX K mg "Priced" cA iA sA "Priced.__init__" "Priced.shows" sPrInit sPrShows) (c2 : ClsX K mg "Ring" cB iB sB "Ring.__init__" "Ring.shows" sRiInit sRiShows)
    (c3 : ClsX K mg "Settled" cC iC sC "Settled.__init__" "Settled.shows" sSeInit sSeShows) (n1 : PySem.W.findIn K (.ref cA) "prices" = some none) (n2 : PySem.W.findIn K (.ref cB) "people" = some none) (n3 : PySem.W.findIn K (.ref cC) "rooms" = some none) (n4 : PySem.W.findIn K (.ref cC) "prices" = some none)
    (k1 : PySem.W.kitOne K (.ref cB) (.ref cA) = some false) (k2 : PySem.W.kitOne K (.ref cA) (.ref cB) = some false) (e : ErrAt K mg R N) (hM : ∃ t, mg "MOST" = some (.int 12 t)) (z : ZAt mg) :
    ∃ fd : FuncData, (∀ (s : Shared) (v : Value), BindsTo s fd ⟨[v], []⟩ [("_law_script", v)]) ∧ ∀ base : Heap, K.In base → base.Ns mainGlobals mg → FnOk l.prog w K mg base CX0 8 fa fd ["_law_script"] (spLaw K) :=
  all_mk (D := ⟨f0, f1, f2, f3, f4, f5, f6, f7, f8, f9, f10, f11, f12, f13, f14, f15, f16, f17, f18, f19, f20, f21, f22, f23, f24, f25, f26, f27, cA, cB, cC, iA, sA, iB, sB, iC, sC, R, N⟩) hfa (txt_mk ⟨d0, d1, d2, d3, d4, d5, d6, d7, d8, d9, d10, d11, d12, d13, d14, d15, d16, d17, d18, d19, d20, d21, d22, d23, d24, d25, d26, d27⟩ c1 c2 c3 n1 n2 n3 n4 k1 k2 e hM z)
end
theorem walk {l : PySem.W.OpenLaw} {q : Program} {loose : List Str} {XP : (Str → Option Value) → Heap → Prop} {YP : World → Heap → Prop} {d : DefRec} {K : Params → PySem.W.Frag} (hn : l.most = some 63) (hdf : d.params.defaults = [])
    (hY : ∀ (w : World) (h : Heap), YP w h → (K w.params).In h)
    (F : ∀ (w : World) (mg : Str → Option Value) (fa : Addr) (h : Heap), (K w.params).In h → h.Ns mainGlobals mg → mg d.name = some (.ref fa) →
      ∃ fd : FuncData, (∀ (s : Shared) (u : Value), BindsTo s fd ⟨[u], []⟩ [("_law_script", u)]) ∧ ∀ base : Heap, (K w.params).In base → base.Ns mainGlobals mg → FnOk l.prog w (K w.params) mg base CX0 8 fa fd ["_law_script"] (spLaw (K w.params))) :
    PySem.W.WalkO q loose XP YP l.row.toRowW d [] (fun f vs => PySem.call f vs) :=
  L2.walk_of (n := 63) (k := 8) (x := "_law_script") (CX := fun _ => CX0) (sp := fun w => spLaw (K w.params)) hn (by decide) hdf ⟨rfl, by decide, by decide⟩ hY F (fun _ _ a ns hl _ hS => ⟨a, ns, rfl, hS, hl, fun _ => rfl⟩) fun _ _ _ _ _ z => z
/-- one def, its place forgotten -/
theorem with_def {K : PySem.W.Frag} {mg : Str → Option Value} {h : Heap} {goal : Prop} (x : Str) (st : Stmt) {f : Addr} {oc : Value} {od an : Option Addr} {osl : Array (Option Value)} {kV doc pm cdv ct : Value} (X : K.In h) (G : h.Ns mainGlobals mg) (a : PySem.W.nsIn K mainGlobals x = some (some (.ref f)))
    (l : K.lookup f = some ⟨oc, od, .func (PySem.W.fnOf x x (defArgs st) (defBody st) (defScope st) .none kV doc pm an cdv ct), osl⟩) (c : PySem.W.codeIn K cdv x = true) (k : PySem.W.keepIn K (.ref f) = true) (next : ∀ f : Addr, DefAt K mg x st f → goal) : goal := next f (def_mk X G a l c k)
end RP
open PySem PySem.W PyProof.Rows in
set_option maxRecDepth 100000 in
set_option maxHeartbeats 0 in
theorem PySem.Challenge.cw_roomprices_k06_whole_numbers_holds : PySem.Challenge.rw_roomprices_k06_whole_numbers.Holds := by
  w_on; o_law; k_head; (case hw => w_witness2)
  k_fill
  refine RP.walk (l := PySem.Challenge.rw_roomprices_k06_whole_numbers) rfl rfl (fun w h Y => PySem.W.kIn_of Y) ?F
  case F =>
    intro w mg fa h KX G hmg
    refine' RP.with_def "is_number" RP.sIsNum KX G ?a0 ?l0 ?c0 ?k0 fun f0 d0 => ?_
    (case a0 => k_is); (case l0 => k_is); (case c0 => k_is); (case k0 => k_is)
    refine' RP.with_def "are_numbers" RP.sAreNum KX G ?a1 ?l1 ?c1 ?k1 fun f1 d1 => ?_
    (case a1 => k_is); (case l1 => k_is); (case c1 => k_is); (case k1 => k_is)
    refine' RP.with_def "asked_table" RP.sAskT KX G ?a2 ?l2 ?c2 ?k2 fun f2 d2 => ?_
    (case a2 => k_is); (case l2 => k_is); (case c2 => k_is); (case k2 => k_is)
    refine' RP.with_def "asked_rent" RP.sAskR KX G ?a3 ?l3 ?c3 ?k3 fun f3 d3 => ?_
    (case a3 => k_is); (case l3 => k_is); (case c3 => k_is); (case k3 => k_is)
    refine' RP.with_def "asked_giving" RP.sAskG KX G ?a4 ?l4 ?c4 ?k4 fun f4 d4 => ?_
    (case a4 => k_is); (case l4 => k_is); (case c4 => k_is); (case k4 => k_is)
    refine' RP.with_def "asked_prices" RP.sAskP KX G ?a5 ?l5 ?c5 ?k5 fun f5 d5 => ?_
    (case a5 => k_is); (case l5 => k_is); (case c5 => k_is); (case k5 => k_is)
    refine' RP.with_def "are_fit" RP.sAreFit KX G ?a6 ?l6 ?c6 ?k6 fun f6 d6 => ?_
    (case a6 => k_is); (case l6 => k_is); (case c6 => k_is); (case k6 => k_is)
    refine' RP.with_def "fit" RP.sFit KX G ?a7 ?l7 ?c7 ?k7 fun f7 d7 => ?_
    (case a7 => k_is); (case l7 => k_is); (case c7 => k_is); (case k7 => k_is)
    refine' RP.with_def "worth" RP.sWorth KX G ?a8 ?l8 ?c8 ?k8 fun f8 d8 => ?_
    (case a8 => k_is); (case l8 => k_is); (case c8 => k_is); (case k8 => k_is)
    refine' RP.with_def "owners" RP.sOwners KX G ?a9 ?l9 ?c9 ?k9 fun f9 d9 => ?_
    (case a9 => k_is); (case l9 => k_is); (case c9 => k_is); (case k9 => k_is)
    refine' RP.with_def "gaps" RP.sGaps KX G ?a10 ?l10 ?c10 ?k10 fun f10 d10 => ?_
    (case a10 => k_is); (case l10 => k_is); (case c10 => k_is); (case k10 => k_is)
    refine' RP.with_def "barring" RP.sBarring KX G ?a11 ?l11 ?c11 ?k11 fun f11 d11 => ?_
    (case a11 => k_is); (case l11 => k_is); (case c11 => k_is); (case k11 => k_is)
    refine' RP.with_def "bounds" RP.sBounds KX G ?a12 ?l12 ?c12 ?k12 fun f12 d12 => ?_
    (case a12 => k_is); (case l12 => k_is); (case c12 => k_is); (case k12 => k_is)
    refine' RP.with_def "told_of" RP.sToldOf KX G ?a13 ?l13 ?c13 ?k13 fun f13 d13 => ?_
    (case a13 => k_is); (case l13 => k_is); (case c13 => k_is); (case k13 => k_is)
    refine' RP.with_def "told" RP.sTold KX G ?a14 ?l14 ?c14 ?k14 fun f14 d14 => ?_
    (case a14 => k_is); (case l14 => k_is); (case c14 => k_is); (case k14 => k_is)
    refine' RP.with_def "between" RP.sBetween KX G ?a15 ?l15 ?c15 ?k15 fun f15 d15 => ?_
    (case a15 => k_is); (case l15 => k_is); (case c15 => k_is); (case k15 => k_is)
    refine' RP.with_def "put_in" RP.sPutIn KX G ?a16 ?l16 ?c16 ?k16 fun f16 d16 => ?_
    (case a16 => k_is); (case l16 => k_is); (case c16 => k_is); (case k16 => k_is)
    refine' RP.with_def "best" RP.sBest KX G ?a17 ?l17 ?c17 ?k17 fun f17 d17 => ?_
    (case a17 => k_is); (case l17 => k_is); (case c17 => k_is); (case k17 => k_is)
    refine' RP.with_def "settled" RP.sSettled KX G ?a18 ?l18 ?c18 ?k18 fun f18 d18 => ?_
    (case a18 => k_is); (case l18 => k_is); (case c18 => k_is); (case k18 => k_is)
    refine' RP.with_def "most" RP.sMost KX G ?a19 ?l19 ?c19 ?k19 fun f19 d19 => ?_
    (case a19 => k_is); (case l19 => k_is); (case c19 => k_is); (case k19 => k_is)
    refine' RP.with_def "_law_number" RP.sNumber KX G ?a20 ?l20 ?c20 ?k20 fun f20 d20 => ?_
    (case a20 => k_is); (case l20 => k_is); (case c20 => k_is); (case k20 => k_is)
    refine' RP.with_def "_law_plain" RP.sPlain KX G ?a21 ?l21 ?c21 ?k21 fun f21 d21 => ?_
    (case a21 => k_is); (case l21 => k_is); (case c21 => k_is); (case k21 => k_is)
    refine' RP.with_def "_law_truths" RP.sTruths KX G ?a22 ?l22 ?c22 ?k22 fun f22 d22 => ?_
    (case a22 => k_is); (case l22 => k_is); (case c22 => k_is); (case k22 => k_is)
    refine' RP.with_def "_law_table_right" RP.sTabRight KX G ?a23 ?l23 ?c23 ?k23 fun f23 d23 => ?_
    (case a23 => k_is); (case l23 => k_is); (case c23 => k_is); (case k23 => k_is)
    refine' RP.with_def "_law_has_no_prices" RP.sHasNo KX G ?a24 ?l24 ?c24 ?k24 fun f24 d24 => ?_
    (case a24 => k_is); (case l24 => k_is); (case c24 => k_is); (case k24 => k_is)
    refine' RP.with_def "_law_promises_right" RP.sPromises KX G ?a25 ?l25 ?c25 ?k25 fun f25 d25 => ?_
    (case a25 => k_is); (case l25 => k_is); (case c25 => k_is); (case k25 => k_is)
    refine' RP.with_def "_law_rings_promises" RP.sRings KX G ?a26 ?l26 ?c26 ?k26 fun f26 d26 => ?_
    (case a26 => k_is); (case l26 => k_is); (case c26 => k_is); (case k26 => k_is)
    refine' RP.with_def "law" RP.sLaw KX G ?a27 ?l27 ?c27 ?k27 fun f27 d27 => ?_
    (case a27 => k_is); (case l27 => k_is); (case c27 => k_is); (case k27 => k_is)
    refine' RP.all_mk2 (l := PySem.Challenge.rw_roomprices_k06_whole_numbers) hmg d0 d1 d2 d3 d4 d5 d6 d7 d8 d9 d10 d11 d12 d13 d14 d15 d16 d17 d18 d19 d20 d21 d22 d23 d24 d25 d26 d27
      (RP.cls_mk KX G ?p0a ?p0pg ?p0hd ?p0po ?p0sa ?p0mk ?p0kc ?p0ha ?p0mr ?p0i ?p0fn ?p0l ?p0c ?p0k ?p0i2 ?p0fn2 ?p0l2 ?p0c2 ?p0k2)
      (RP.cls_mk KX G ?p1a ?p1pg ?p1hd ?p1po ?p1sa ?p1mk ?p1kc ?p1ha ?p1mr ?p1i ?p1fn ?p1l ?p1c ?p1k ?p1i2 ?p1fn2 ?p1l2 ?p1c2 ?p1k2)
      (RP.cls_mk KX G ?p2a ?p2pg ?p2hd ?p2po ?p2sa ?p2mk ?p2kc ?p2ha ?p2mr ?p2i ?p2fn ?p2l ?p2c ?p2k ?p2i2 ?p2fn2 ?p2l2 ?p2c2 ?p2k2)
      ?n1 ?n2 ?n3 ?n4 (RP.kit_other ?o1 ?o2 ?o3 ?o4) (RP.kit_other ?q1 ?q2 ?q3 ?q4)
      (RP.err_mk KX G ?ea ?eb ?ex ?ek ?et ?ehg ?ehk ?ehs ?ehd ?eha ?ehn ?eht ?ehm ?er1 ?er2 ?er3 ?er4) (RP.most_mk KX G ?hM) (RP.z_mk KX G ?zIsi ?zInt ?zBool ?zList ?zTuple ?zStr ?zLen ?zAll ?zSorted ?zRange ?zSum ?zEnum ?zZip ?zMax ?zMin ?zSet ?zAbs)
    (case p0a => k_is); (case p0pg => k_is); (case p0hd => k_is); (case p0po => k_is); (case p0sa => k_is); (case p0mk => k_is); (case p0kc => k_is); (case p0ha => k_is); (case p0mr => k_is); (case p0i => k_is); (case p0fn => k_is); (case p0l => k_is); (case p0c => k_is); (case p0k => k_is); (case p0i2 => k_is); (case p0fn2 => k_is); (case p0l2 => k_is); (case p0c2 => k_is); (case p0k2 => k_is)
    (case p1a => k_is); (case p1pg => k_is); (case p1hd => k_is); (case p1po => k_is); (case p1sa => k_is); (case p1mk => k_is); (case p1kc => k_is); (case p1ha => k_is); (case p1mr => k_is); (case p1i => k_is); (case p1fn => k_is); (case p1l => k_is); (case p1c => k_is); (case p1k => k_is); (case p1i2 => k_is); (case p1fn2 => k_is); (case p1l2 => k_is); (case p1c2 => k_is); (case p1k2 => k_is)
    (case p2a => k_is); (case p2pg => k_is); (case p2hd => k_is); (case p2po => k_is); (case p2sa => k_is); (case p2mk => k_is); (case p2kc => k_is); (case p2ha => k_is); (case p2mr => k_is); (case p2i => k_is); (case p2fn => k_is); (case p2l => k_is); (case p2c => k_is); (case p2k => k_is); (case p2i2 => k_is); (case p2fn2 => k_is); (case p2l2 => k_is); (case p2c2 => k_is); (case p2k2 => k_is)
    (case n1 => k_is); (case n2 => k_is); (case n3 => k_is); (case n4 => k_is)
    (case o1 => decide); (case o2 => k_is); (case o3 => k_is); (case o4 => k_is); (case q1 => decide); (case q2 => k_is); (case q3 => k_is); (case q4 => k_is)
    (case ea => k_is); (case eb => k_is); (case ex => k_exc); (case ek => k_is); (case et => k_is); (case ehg => k_is); (case ehk => k_is); (case ehs => k_is); (case ehd => k_is); (case eha => k_is); (case ehn => k_is); (case eht => k_is); (case ehm => k_is); (case er1 => k_is); (case er2 => k_is); (case er3 => k_is); (case er4 => k_is)
    (case hM => k_is)
    (case zIsi => k_is); (case zInt => k_is); (case zBool => k_is); (case zList => k_is); (case zTuple => k_is); (case zStr => k_is); (case zLen => k_is); (case zAll => k_is); (case zSorted => k_is); (case zRange => k_is); (case zSum => k_is); (case zEnum => k_is); (case zZip => k_is); (case zMax => k_is); (case zMin => k_is); (case zSet => k_is); (case zAbs => k_is)
