import PyProof.Rows.All
import Wide.All
import OpenK.AllK
import Wide.FinOn
import HandS.ForMost
import HandS.ForExc
import HandS.Walk
import HandS.Flow
import HandS.Star
import HandS.Style
import HandS.SortInts
import HandS.IsInst
import HandS.TupAny
import HandS.More
import HandS.Wide
import HandS.GenCall
import HandS.GenList
import HandS.SetBool
import HandS.Small
import HandS.Conv
import HandS.WideMore
import HandS.ExcInit
import HandS.ExcField
import HandS.CallSlots
import HandS.CallRecv
import HandS.Zip
import KE.KDictKeyed
import KE.SortData
import PyProof.RulesMatch
import PySem.Challenge.RW_strandloom_k06_whole_blocks
import PyProof.AutoIntOps
import KE.GoesZip
import KE.GoesEnum
import KE.GoesMore
import PyProof.EnumMake
import HandS.GenBody
import PyProof.GenRules
import PyProof.GenQ
import HandS.DictComp
import PyProof.Rows.Range3
import HandS.Hot
import HandS.HotCalls
import HandS.ExcCtx
set_option linter.all false
namespace K6

/-! ### rows, steps, looms -/
inductive Sd where | left | right | both | all
  deriving DecidableEq, Repr
/-- a step between halves: cmp x up: a comparison, x: cross (else mirror) -/
inductive Stp where
  | cmp (x up : Bool)
  | swap
  | flip (s : Sd)
  deriving DecidableEq, Repr

def ordP (up : Bool) (a b : Int) : Int × Int := if up then (min a b, max a b) else (max a b, min a b)

def flipIf {α : Type} (t : Bool) (l : List α) : List α := if t then l.reverse else l
theorem flipIf_not {α : Type} (t : Bool) (l : List α) : flipIf (!t) l = (flipIf t l).reverse := by
  cases t <;> simp [flipIf]
theorem length_flipIf {α : Type} (t : Bool) (l : List α) : (flipIf t l).length = l.length := by
  cases t <;> simp [flipIf]
theorem mem_flipIf {α : Type} {t : Bool} {l : List α} {a : α} : a ∈ flipIf t l ↔ a ∈ l := by
  cases t <;> simp [flipIf]
theorem flipIf_map {α β : Type} (f : α → β) (t : Bool) (l : List α) : flipIf t (l.map f) = (flipIf t l).map f := by
  cases t <;> simp [flipIf]
theorem flipIf_flipIf {α : Type} (t u : Bool) (l : List α) : flipIf t (flipIf u l) = flipIf (t != u) l := by
  cases t <;> cases u <;> simp [flipIf]
theorem flipIf_perm {α : Type} (t : Bool) (l : List α) : (flipIf t l).Perm l := by
  cases t
  · exact List.Perm.refl _
  · exact List.reverse_perm l

def stepR (s : Stp) (p : List Int × List Int) : List Int × List Int := match s with
  | .swap => (p.2, p.1)
  | .flip .all => (p.2.reverse, p.1.reverse)
  | .flip .left => (p.1.reverse, p.2)
  | .flip .right => (p.1, p.2.reverse)
  | .flip .both => (p.1.reverse, p.2.reverse)
  | .cmp x up => ((List.zipWith (ordP up) p.1 (flipIf (!x) p.2)).map Prod.fst, flipIf (!x) ((List.zipWith (ordP up) p.1 (flipIf (!x) p.2)).map Prod.snd))

structure Loom where
  steps : List Stp
  one : Option (Nat × Bool)
  two : Option (Nat × Bool)
  deriving DecidableEq, Repr, Inhabited

abbrev Looms := List Loom
def Looms.at (L : Looms) (n : Nat) : Loom := (L[n]?).getD ⟨[], none, none⟩
def Loom.call (l : Loom) (side : Bool) : Option (Nat × Bool) := if side then l.two else l.one

def halves (row : List Int) : List Int × List Int := (row.take (row.length / 2), row.drop (row.length / 2))

mutual
def doneN (L : Looms) : Nat → Nat → List Int → List Int
  | 0, _, row => row
  | k + 1, nm, row =>
    let p := (L.at nm).steps.foldl (fun p s => stepR s p) (halves row)
    callN L k (L.at nm).one p.1 ++ callN L k (L.at nm).two p.2
def callN (L : Looms) : Nat → Option (Nat × Bool) → List Int → List Int
  | _, none, row => row
  | k, some (n, t), row => flipIf t (doneN L k n (flipIf t row))
end

/-! ### relations -/
def rels : Bool → List Stp → List Bool
  | _, [] => []
  | s, .cmp x _ :: r => (s == x) :: rels s r
  | s, .flip .left :: r => rels (!s) r
  | s, .flip .right :: r => rels (!s) r
  | s, .flip .both :: r => rels s r
  | s, .flip .all :: r => rels s r
  | s, .swap :: r => rels s r
def same (st : List Stp) : Bool := (rels true st).head?.getD true
def Inside (st : List Stp) : Prop := ∀ b ∈ rels true st, b = same st

/-! ### columns -/
def stepC (s : Stp) (c : List (Int × Int) × Bool × Bool) : List (Int × Int) × Bool × Bool := match s with
  | .swap => (c.1.map Prod.swap, c.2.2, c.2.1)
  | .flip .all => (c.1.map Prod.swap, !c.2.2, !c.2.1)
  | .flip .left => (c.1, !c.2.1, c.2.2)
  | .flip .right => (c.1, c.2.1, !c.2.2)
  | .flip .both => (c.1, !c.2.1, !c.2.2)
  | .cmp _ up => (c.1.map (fun c => ordP up c.1 c.2), c.2.1, c.2.2)
/-- the halves that columns tell, each of some length (E: one column a lane) -/
def real (c : List (Int × Int) × Bool × Bool) : List Int × List Int := (flipIf c.2.1 (c.1.map Prod.fst), flipIf c.2.2 (c.1.map Prod.snd))

theorem map_fst_swap (E : List (Int × Int)) : (E.map Prod.swap).map Prod.fst = E.map Prod.snd := by
  rw [List.map_map]; rfl
theorem map_snd_swap (E : List (Int × Int)) : (E.map Prod.swap).map Prod.snd = E.map Prod.fst := by
  rw [List.map_map]; rfl
theorem zip_pairs (f : Int → Int → Int × Int) (E : List (Int × Int)) : List.zipWith f (E.map Prod.fst) (E.map Prod.snd) = E.map (fun c => f c.1 c.2) := by
  induction E with
  | nil => rfl
  | cons a E ih => simp [ih]
theorem stepR_real (s : Stp) (c : List (Int × Int) × Bool × Bool) (h : ∀ x up, s = .cmp x up → (c.2.1 == c.2.2) = x) : stepR s (real c) = real (stepC s c) := by
  obtain ⟨E, tl, tr⟩ := c
  cases s with
  | swap => simp only [stepR, real, stepC, map_fst_swap, map_snd_swap]
  | flip z =>
    cases z with
    | left => simp only [stepR, real, stepC, flipIf_not]
    | right => simp only [stepR, real, stepC, flipIf_not]
    | both => simp only [stepR, real, stepC, flipIf_not]
    | all => simp only [stepR, real, stepC, flipIf_not, map_fst_swap, map_snd_swap]
  | cmp x up =>
    have hx := h x up rfl
    have e := zip_pairs (ordP up) E
    have e2 := zip_pairs (ordP up) E.reverse
    simp only [List.map_reverse] at e2
    cases tl <;> cases tr <;> cases x <;> simp at hx <;> simp [stepR, real, stepC, flipIf, e, e2]
theorem foldl_real (st : List Stp) (sm : Bool) : ∀ (p : Bool) (c : List (Int × Int) × Bool × Bool), (∀ b ∈ rels p st, b = sm) → (c.2.1 == c.2.2) = (p == sm) →
    st.foldl (fun p s => stepR s p) (real c) = real (st.foldl (fun c s => stepC s c) c) := by
  induction st with
  | nil => intro p c _ _; rfl
  | cons s st ih =>
    intro p c hb hc
    obtain ⟨E, tl, tr⟩ := c
    rw [List.foldl_cons, List.foldl_cons]
    have hs : ∀ x up, s = .cmp x up → (tl == tr) = x := by
      intro x up e
      subst e
      have h1 := hb (p == x) (by simp [rels])
      have h2 : (tl == tr) = (p == sm) := hc
      rw [h2, ← h1]
      cases p <;> cases x <;> rfl
    rw [stepR_real s (E, tl, tr) hs]
    have hc2 : (tl == tr) = (p == sm) := hc
    cases s with
    | swap => exact ih p _ (fun b h => hb b (by simpa [rels] using h)) (by show (tr == tl) = _; rw [← hc2]; cases tl <;> cases tr <;> rfl)
    | cmp x up => exact ih p _ (fun b h => hb b (by simp [rels, h])) hc2
    | flip z =>
      cases z with
      | left => exact ih (!p) _ (fun b h => hb b (by simpa [rels] using h)) (by show ((!tl) == tr) = _; revert hc2; cases tl <;> cases tr <;> cases p <;> cases sm <;> simp)
      | right => exact ih (!p) _ (fun b h => hb b (by simpa [rels] using h)) (by show (tl == (!tr)) = _; revert hc2; cases tl <;> cases tr <;> cases p <;> cases sm <;> simp)
      | both => exact ih p _ (fun b h => hb b (by simpa [rels] using h)) (by show ((!tl) == (!tr)) = _; revert hc2; cases tl <;> cases tr <;> cases p <;> cases sm <;> simp)
      | all => exact ih p _ (fun b h => hb b (by simpa [rels] using h)) (by show ((!tr) == (!tl)) = _; revert hc2; cases tl <;> cases tr <;> cases p <;> cases sm <;> simp)

/-- behind all steps -/
def finC (st : List Stp) (E : List (Int × Int)) : List (Int × Int) × Bool × Bool := st.foldl (fun c s => stepC s c) (E, false, !same st)
theorem steps_real {st : List Stp} (h : Inside st) (E : List (Int × Int)) : st.foldl (fun p s => stepR s p) (E.map Prod.fst, flipIf (!same st) (E.map Prod.snd)) = real (finC st E) := by
  have := foldl_real st (same st) true (E, false, !same st) h (by cases same st <;> rfl)
  exact this

/-! ### the function of columns -/
def colF (st : List Stp) : Int × Int → Int × Int := fun c => st.foldl (fun c s => match s with | .swap | .flip .all => c.swap | .cmp _ up => ordP up c.1 c.2 | _ => c) c
def turnsT (st : List Stp) : Bool × Bool → Bool × Bool := fun t => st.foldl (fun t s => match s with
  | .swap => (t.2, t.1) | .flip .all => (!t.2, !t.1) | .flip .left => (!t.1, t.2) | .flip .right => (t.1, !t.2) | .flip .both => (!t.1, !t.2) | .cmp _ _ => t) t
theorem fold_split (st : List Stp) : ∀ (E : List (Int × Int)) (t : Bool × Bool), st.foldl (fun c s => stepC s c) (E, t.1, t.2) = (E.map (colF st), (turnsT st t).1, (turnsT st t).2) := by
  induction st with
  | nil =>
    intro E t
    have e : colF [] = id := rfl
    rw [e, List.map_id]
    rfl
  | cons s st ih =>
    intro E t
    rw [List.foldl_cons]
    cases s with
    | swap =>
      have := ih (E.map Prod.swap) (t.2, t.1)
      simp only [stepC] at this ⊢
      rw [this]
      simp [colF, turnsT, List.map_map, Function.comp_def]
    | cmp x up =>
      have := ih (E.map (fun c => ordP up c.1 c.2)) t
      simp only [stepC] at this ⊢
      rw [this]
      simp [colF, turnsT, List.map_map, Function.comp_def]
    | flip z =>
      cases z with
      | left =>
        have := ih E (!t.1, t.2)
        simp only [stepC] at this ⊢
        rw [this]
        simp [colF, turnsT]
      | right =>
        have := ih E (t.1, !t.2)
        simp only [stepC] at this ⊢
        rw [this]
        simp [colF, turnsT]
      | both =>
        have := ih E (!t.1, !t.2)
        simp only [stepC] at this ⊢
        rw [this]
        simp [colF, turnsT]
      | all =>
        have := ih (E.map Prod.swap) (!t.2, !t.1)
        simp only [stepC] at this ⊢
        rw [this]
        simp [colF, turnsT, List.map_map, Function.comp_def]
theorem finC_eq (st : List Stp) (E : List (Int × Int)) : finC st E = (E.map (colF st), (turnsT st (false, !same st)).1, (turnsT st (false, !same st)).2) := fold_split st E (false, !same st)

/-! ### pieces -/
def expand {α : Type} : List α → List Nat → List α
  | a :: w, n :: ls => List.replicate n a ++ expand w ls
  | _, _ => []
theorem expand_map {α β : Type} (f : α → β) : ∀ (w : List α) (ls : List Nat), expand (w.map f) ls = (expand w ls).map f
  | [], ls => by simp [expand]
  | _ :: _, [] => by simp [expand]
  | a :: w, n :: ls => by simp [expand, expand_map f w ls]
theorem expand_append {α : Type} : ∀ (w v : List α) (ls ks : List Nat), w.length = ls.length → expand (w ++ v) (ls ++ ks) = expand w ls ++ expand v ks
  | [], v, [], ks, _ => by simp [expand]
  | [], v, _ :: _, ks, h => by simp at h
  | _ :: _, v, [], ks, h => by simp at h
  | a :: w, v, n :: ls, ks, h => by
    have h' : w.length = ls.length := by simpa using h
    simp [expand, expand_append w v ls ks h']
theorem expand_reverse {α : Type} : ∀ (w : List α) (ls : List Nat), w.length = ls.length → (expand w ls).reverse = expand w.reverse ls.reverse
  | [], [], _ => rfl
  | [], _ :: _, h => by simp at h
  | _ :: _, [], h => by simp at h
  | a :: w, n :: ls, h => by
    have h' : w.length = ls.length := by simpa using h
    rw [expand, List.reverse_append, expand_reverse w ls h', List.reverse_cons, List.reverse_cons, expand_append _ _ _ _ (by simpa using h')]
    simp [expand]
theorem expand_flipIf {α : Type} (t : Bool) (w : List α) (ls : List Nat) (h : w.length = ls.length) : flipIf t (expand w ls) = expand (flipIf t w) (flipIf t ls) := by
  cases t
  · rfl
  · exact expand_reverse w ls h
theorem expand_length {α : Type} : ∀ (w : List α) (ls : List Nat), w.length = ls.length → (expand w ls).length = ls.sum
  | [], [], _ => rfl
  | [], _ :: _, h => by simp at h
  | _ :: _, [], h => by simp at h
  | a :: w, n :: ls, h => by
    have h' : w.length = ls.length := by simpa using h
    simp [expand, expand_length w ls h']
def Pos (ls : List Nat) : Prop := ∀ n ∈ ls, 0 < n
theorem Pos.tail {n : Nat} {ls : List Nat} (h : Pos (n :: ls)) : Pos ls := fun m hm => h m (List.mem_cons_of_mem _ hm)
theorem Pos.head {n : Nat} {ls : List Nat} (h : Pos (n :: ls)) : 0 < n := h n List.mem_cons_self
theorem mem_expand {α : Type} {a : α} : ∀ {w : List α} {ls : List Nat}, w.length = ls.length → Pos ls → (a ∈ expand w ls ↔ a ∈ w)
  | [], [], _, _ => by simp [expand]
  | [], _ :: _, h, _ => by simp at h
  | _ :: _, [], h, _ => by simp at h
  | b :: w, n :: ls, h, p => by
    have h' : w.length = ls.length := by simpa using h
    have := mem_expand (a := a) h' p.tail
    have hn : n ≠ 0 := Nat.ne_of_gt p.head
    simp [expand, this, hn]
theorem expand_one {α : Type} : ∀ (w : List α), expand w (List.replicate w.length 1) = w
  | [] => rfl
  | a :: w => by simp [expand, List.replicate_succ, expand_one w]
end K6
set_option linter.all false
namespace K6
theorem rep_add {α : Type} {a : α} {m n : Nat} : List.replicate (m + n) a = List.replicate m a ++ List.replicate n a := by
  rw [List.replicate_append_replicate]

/-! ### ways: how two rows of pieces lie over one another -/
inductive WayFrom (m n : Nat) : Nat → Nat → List (Nat × Nat) → Prop
  | last {i j : Nat} : i + 1 = m → j + 1 = n → WayFrom m n i j [(i, j)]
  | rt {i j : Nat} {w : List (Nat × Nat)} : i + 1 < m → j < n → WayFrom m n (i + 1) j w → WayFrom m n i j ((i, j) :: w)
  | dn {i j : Nat} {w : List (Nat × Nat)} : i < m → j + 1 < n → WayFrom m n i (j + 1) w → WayFrom m n i j ((i, j) :: w)
  | bo {i j : Nat} {w : List (Nat × Nat)} : i + 1 < m → j + 1 < n → WayFrom m n (i + 1) (j + 1) w → WayFrom m n i j ((i, j) :: w)

inductive Mono (m : Nat) : Nat → List Nat → Prop
  | last {i : Nat} : i + 1 = m → Mono m i [i]
  | stay {i : Nat} {l : List Nat} : i < m → Mono m i l → Mono m i (i :: l)
  | up {i : Nat} {l : List Nat} : i + 1 < m → Mono m (i + 1) l → Mono m i (i :: l)
theorem WayFrom.fst {m n i j : Nat} {w : List (Nat × Nat)} (h : WayFrom m n i j w) : Mono m i (w.map Prod.fst) := by
  induction h with
  | last h _ => exact .last h
  | rt h _ _ ih => exact .up h ih
  | dn h _ _ ih => exact .stay h ih
  | bo h _ _ ih => exact .up h ih
theorem WayFrom.snd {m n i j : Nat} {w : List (Nat × Nat)} (h : WayFrom m n i j w) : Mono n j (w.map Prod.snd) := by
  induction h with
  | last _ h => exact .last h
  | rt _ h _ ih => exact .stay h ih
  | dn _ h _ ih => exact .up h ih
  | bo _ h _ ih => exact .up h ih
theorem Mono.lt {m i : Nat} {l : List Nat} (h : Mono m i l) : i < m := by
  cases h with
  | last h => omega
  | stay h _ => exact h
  | up h _ => omega
theorem Mono.bd {m i : Nat} {l : List Nat} (h : Mono m i l) : ∀ j ∈ l, i ≤ j ∧ j < m := by
  induction h with
  | last h => intro j hj; simp at hj; omega
  | stay h _ ih =>
    intro j hj
    rcases List.mem_cons.mp hj with e | e
    · omega
    · exact ih j e
  | up h _ ih =>
    intro j hj
    rcases List.mem_cons.mp hj with e | e
    · omega
    · have := ih j e; omega
theorem Mono.all {m i : Nat} {l : List Nat} (h : Mono m i l) : ∀ j, i ≤ j → j < m → j ∈ l := by
  induction h with
  | last h => intro j h1 h2; simp; omega
  | stay h _ ih => intro j h1 h2; exact List.mem_cons_of_mem _ (ih j h1 h2)
  | @up i l h _ ih =>
    intro j h1 h2
    by_cases e : j = i
    · rw [e]; exact List.mem_cons_self
    · exact List.mem_cons_of_mem _ (ih j (by omega) h2)
theorem WayFrom.bd {m n i j : Nat} {w : List (Nat × Nat)} (h : WayFrom m n i j w) : ∀ p ∈ w, p.1 < m ∧ p.2 < n := fun p hp =>
  ⟨(h.fst.bd p.1 (List.mem_map_of_mem hp)).2, (h.snd.bd p.2 (List.mem_map_of_mem hp)).2⟩
theorem WayFrom.len {m n i j : Nat} {w : List (Nat × Nat)} (h : WayFrom m n i j w) : w.length + 1 + i + j ≤ m + n := by
  induction h with
  | last h1 h2 => simp; omega
  | rt _ _ _ ih => simp; omega
  | dn _ _ _ ih => simp; omega
  | bo _ _ _ ih => simp; omega
theorem WayFrom.ne {m n i j : Nat} {w : List (Nat × Nat)} (h : WayFrom m n i j w) : w ≠ [] := by
  cases h <;> simp

/-! ### sums of the pieces that lie over a piece -/
def sumAt (i : Nat) : List Nat → List Nat → Nat
  | j :: l, n :: ls => (if j = i then n else 0) + sumAt i l ls
  | _, _ => 0
def tal (m : Nat) (l : List Nat) (ls : List Nat) : List Nat := (List.range m).map fun i => sumAt i l ls
theorem sumAt_zero {i : Nat} : ∀ {l ls : List Nat}, (∀ j ∈ l, j ≠ i) → sumAt i l ls = 0
  | [], _, _ => by simp [sumAt]
  | _ :: _, [], _ => by simp [sumAt]
  | j :: l, n :: ls, h => by
    have h1 : j ≠ i := h j List.mem_cons_self
    simp [sumAt, h1, sumAt_zero (l := l) (ls := ls) fun k hk => h k (List.mem_cons_of_mem _ hk)]
theorem sumAt_pos {i : Nat} : ∀ {l ls : List Nat}, l.length = ls.length → Pos ls → i ∈ l → 0 < sumAt i l ls
  | [], _, _, _, h => by simp at h
  | _ :: _, [], h, _, _ => by simp at h
  | j :: l, n :: ls, h, p, hi => by
    have h' : l.length = ls.length := by simpa using h
    have hn := p.head
    by_cases e : j = i
    · simp [sumAt, e]; omega
    · have : i ∈ l := by
        rcases List.mem_cons.mp hi with q | q
        · exact absurd q.symm e
        · exact q
      have := sumAt_pos h' p.tail this
      simp [sumAt, e]; omega
theorem expand_mono {α : Type} (g : Nat → α) {m i : Nat} {l : List Nat} (h : Mono m i l) : ∀ ls : List Nat, l.length = ls.length →
    expand (l.map g) ls = expand ((List.range' i (m - i)).map g) ((List.range' i (m - i)).map fun j => sumAt j l ls) := by
  have unr : ∀ i, i < m → List.range' i (m - i) = i :: List.range' (i + 1) (m - (i + 1)) := by
    intro i hi
    have : m - i = (m - (i + 1)) + 1 := by omega
    rw [this, List.range'_succ]
  induction h with
  | @last i h =>
    intro ls hl
    cases ls with
    | nil => simp at hl
    | cons n ls =>
      have e : m - (i + 1) = 0 := by omega
      have : ls = [] := by
        simp at hl
        exact hl
      subst this
      rw [unr i (by omega), e]
      simp [expand, sumAt]
  | @stay i l hi h ih =>
    intro ls hl
    cases ls with
    | nil => simp at hl
    | cons n ls =>
      have hl' : l.length = ls.length := by simpa using hl
      rw [List.map_cons, expand, ih ls hl', unr i hi]
      simp only [List.map_cons, expand, sumAt, if_true]
      rw [rep_add, List.append_assoc]
      congr 2
      congr 1
      refine List.map_congr_left fun j hj => ?_
      have := List.mem_range'.mp hj
      rw [if_neg (by omega), Nat.zero_add]
  | @up i l hi h ih =>
    intro ls hl
    cases ls with
    | nil => simp at hl
    | cons n ls =>
      have hl' : l.length = ls.length := by simpa using hl
      rw [List.map_cons, expand, ih ls hl', unr i (by omega)]
      simp only [List.map_cons, expand, sumAt, if_true]
      rw [sumAt_zero (i := i) (l := l) (fun j hj => by have := h.bd j hj; omega), Nat.add_zero]
      congr 1
      congr 1
      refine List.map_congr_left fun j hj => ?_
      have := List.mem_range'.mp hj
      rw [if_neg (by omega), Nat.zero_add]
theorem range_getD {α : Type} (d : α) (w : List α) : (List.range w.length).map (fun i => w.getD i d) = w := by
  refine List.ext_getElem (by simp) fun i h1 h2 => ?_
  have : i < w.length := h2
  simp [List.getD, this]
theorem expand_tal {w : List Int} {l ls : List Nat} (h : Mono w.length 0 l) (hl : l.length = ls.length) :
    expand (l.map fun i => w.getD i 0) ls = expand w (tal w.length l ls) := by
  rw [expand_mono (fun i => w.getD i 0) h ls hl, Nat.sub_zero, ← List.range_eq_range', range_getD]
  rfl
theorem tal_length (m : Nat) (l ls : List Nat) : (tal m l ls).length = m := by simp [tal]
theorem tal_pos {m : Nat} {l ls : List Nat} (h : Mono m 0 l) (hl : l.length = ls.length) (p : Pos ls) : Pos (tal m l ls) := by
  intro n hn
  obtain ⟨i, hi, rfl⟩ := List.mem_map.mp hn
  exact sumAt_pos hl p (h.all i (Nat.zero_le _) (List.mem_range.mp hi))
theorem tal_sum {m : Nat} {l ls : List Nat} (h : Mono m 0 l) (hl : l.length = ls.length) : (tal m l ls).sum = ls.sum := by
  have e := congrArg List.length (expand_mono (fun i => i) h ls hl)
  rw [expand_length _ _ (by simpa using hl), Nat.sub_zero, ← List.range_eq_range', expand_length _ _ (by simp)] at e
  exact e.symm

/-! ### levels -/
structure Lev where
  lw : List Int
  rw : List Int
  win : Bool
  way : List (Nat × Nat)
  deriving DecidableEq, Repr
def IsSplit (w lw rw : List Int) (win : Bool) : Prop :=
  (win = true ∧ ∃ p, p < w.length ∧ lw = w.take (p + 1) ∧ rw = w.drop p) ∨ (win = false ∧ ∃ p, 1 ≤ p ∧ p < w.length ∧ lw = w.take p ∧ rw = w.drop p)
def LevOf (w : List Int) (l : Lev) : Prop := IsSplit w l.lw l.rw l.win ∧ WayFrom l.lw.length l.rw.length 0 0 l.way
def cols (sm : Bool) (l : Lev) : List (Int × Int) := l.way.map fun p => (l.lw.getD p.1 0, (flipIf (!sm) l.rw).getD p.2 0)
def joinS (win : Bool) (a b : List Nat) : List Nat := if win then a.dropLast ++ (a.getLastD 0 + b.headD 0) :: b.tail else a ++ b
def rowAt (sm : Bool) (l : Lev) (ls : List Nat) : List Int × List Nat :=
  (expand ((cols sm l).map Prod.fst) ls ++ flipIf (!sm) (expand ((cols sm l).map Prod.snd) ls),
   joinS l.win (tal l.lw.length (l.way.map Prod.fst) ls) (flipIf (!sm) (tal l.rw.length (l.way.map Prod.snd) ls)))
theorem IsSplit.pos {w lw rw : List Int} {win : Bool} (h : IsSplit w lw rw win) : 0 < lw.length ∧ 0 < rw.length ∧ lw.length + rw.length ≤ w.length + 1 := by
  rcases h with ⟨_, p, hp, rfl, rfl⟩ | ⟨_, p, h1, hp, rfl, rfl⟩
  · simp; omega
  · simp; omega
theorem IsSplit.mem {w lw rw : List Int} {win : Bool} (h : IsSplit w lw rw win) : (∀ x ∈ lw, x ∈ w) ∧ (∀ x ∈ rw, x ∈ w) := by
  rcases h with ⟨_, p, hp, rfl, rfl⟩ | ⟨_, p, h1, hp, rfl, rfl⟩
  · exact ⟨fun x hx => List.mem_of_mem_take hx, fun x hx => List.mem_of_mem_drop hx⟩
  · exact ⟨fun x hx => List.mem_of_mem_take hx, fun x hx => List.mem_of_mem_drop hx⟩
theorem LevOf.len {w : List Int} {l : Lev} (h : LevOf w l) : 0 < l.way.length ∧ l.way.length ≤ w.length := by
  have h1 := h.1.pos
  have h2 := h.2.len
  have h3 := List.length_pos_iff.mpr h.2.ne
  omega
theorem cols_fst {sm : Bool} {l : Lev} {ls : List Nat} (h : WayFrom l.lw.length l.rw.length 0 0 l.way) (hl : ls.length = l.way.length) :
    expand ((cols sm l).map Prod.fst) ls = expand l.lw (tal l.lw.length (l.way.map Prod.fst) ls) := by
  have e : (cols sm l).map Prod.fst = (l.way.map Prod.fst).map fun i => l.lw.getD i 0 := by simp [cols]
  rw [e, expand_tal h.fst (by simpa using hl.symm)]
theorem cols_snd {sm : Bool} {l : Lev} {ls : List Nat} (h : WayFrom l.lw.length l.rw.length 0 0 l.way) (hl : ls.length = l.way.length) :
    flipIf (!sm) (expand ((cols sm l).map Prod.snd) ls) = expand l.rw (flipIf (!sm) (tal l.rw.length (l.way.map Prod.snd) ls)) := by
  have e : (cols sm l).map Prod.snd = (l.way.map Prod.snd).map fun i => (flipIf (!sm) l.rw).getD i 0 := by simp [cols]
  have h2 : Mono (flipIf (!sm) l.rw).length 0 (l.way.map Prod.snd) := by rw [length_flipIf]; exact h.snd
  rw [e, expand_tal h2 (by simpa using hl.symm), expand_flipIf _ _ _ (by rw [tal_length]), flipIf_flipIf, length_flipIf]
  cases sm <;> rfl
theorem joinS_true {a b : List Nat} {x y : Nat} : joinS true (a ++ [x]) (y :: b) = a ++ (x + y) :: b := by
  simp [joinS]
theorem row_join {w lw rw : List Int} {win : Bool} (h : IsSplit w lw rw win) {a b : List Nat} (ha : a.length = lw.length) (hb : b.length = rw.length) (pa : Pos a) (pb : Pos b) :
    expand lw a ++ expand rw b = expand w (joinS win a b) ∧ (joinS win a b).length = w.length ∧ Pos (joinS win a b) := by
  rcases h with ⟨rfl, p, hp, rfl, rfl⟩ | ⟨rfl, p, h1, hp, rfl, rfl⟩
  · have hla : a.length = p + 1 := by rw [ha]; simp; omega
    have hlb : b.length = w.length - p := by rw [hb]; simp
    obtain ⟨a', x, rfl⟩ : ∃ a' x, a = a' ++ [x] := ⟨a.dropLast, a.getLast (by intro q; rw [q] at hla; simp at hla), (List.dropLast_concat_getLast _).symm⟩
    obtain ⟨y, b', rfl⟩ : ∃ y b', b = y :: b' := by
      cases b with
      | nil => simp at hlb; omega
      | cons y b' => exact ⟨y, b', rfl⟩
    have hla' : a'.length = p := by simpa using hla
    have hlb' : b'.length = w.length - (p + 1) := by simp at hlb; omega
    have e1 : w.take (p + 1) = w.take p ++ [w[p]] := by rw [List.take_append_getElem]
    have e2 : w.drop p = w[p] :: w.drop (p + 1) := List.drop_eq_getElem_cons hp
    have e3 : w = w.take p ++ w[p] :: w.drop (p + 1) := by rw [← e2, List.take_append_drop]
    rw [joinS_true]
    refine ⟨?_, ?_, ?_⟩
    · have e4 : expand w (a' ++ (x + y) :: b') = expand (w.take p ++ w[p] :: w.drop (p + 1)) (a' ++ (x + y) :: b') := by rw [← e3]
      have hlt : (w.take p).length = a'.length := by simp; omega
      rw [e4, e1, e2, expand_append _ _ _ _ hlt, expand_append _ _ _ _ hlt]
      simp only [expand, rep_add, List.append_nil, List.append_assoc]
    · simp; omega
    · intro n hn
      rcases List.mem_append.mp hn with q | q
      · exact pa n (List.mem_append_left _ q)
      · rcases List.mem_cons.mp q with q | q
        · have := pa x (by simp)
          omega
        · exact pb n (List.mem_cons_of_mem _ q)
  · have hla : a.length = p := by rw [ha]; simp; omega
    have hlb : b.length = w.length - p := by rw [hb]; simp
    show expand _ a ++ expand _ b = expand w (a ++ b) ∧ (a ++ b).length = w.length ∧ Pos (a ++ b)
    refine ⟨?_, by simp; omega, fun n hn => (List.mem_append.mp hn).elim (pa n) (pb n)⟩
    have e : expand w (a ++ b) = expand (w.take p ++ w.drop p) (a ++ b) := by rw [List.take_append_drop]
    rw [e, expand_append _ _ _ _ (by simp; omega)]
/-- R1: the row of a level is a row of pieces -/
theorem rowAt_ok {sm : Bool} {w : List Int} {l : Lev} {ls : List Nat} (h : LevOf w l) (hl : ls.length = l.way.length) (p : Pos ls) :
    (rowAt sm l ls).1 = expand w (rowAt sm l ls).2 ∧ (rowAt sm l ls).2.length = w.length ∧ Pos (rowAt sm l ls).2 ∧ (rowAt sm l ls).1.length = ls.sum + ls.sum := by
  have c1 := cols_fst (sm := sm) h.2 hl
  have c2 := cols_snd (sm := sm) h.2 hl
  have pf := tal_pos h.2.fst (by simpa using hl.symm) p
  have ps := tal_pos h.2.snd (by simpa using hl.symm) p
  have ps' : Pos (flipIf (!sm) (tal l.rw.length (l.way.map Prod.snd) ls)) := fun n hn => ps n (mem_flipIf.mp hn)
  obtain ⟨j1, j2, j3⟩ := row_join h.1 (tal_length _ (l.way.map Prod.fst) ls) (by rw [length_flipIf, tal_length]) pf ps'
  refine ⟨?_, j2, j3, ?_⟩
  · show _ ++ _ = expand w (joinS _ _ _)
    rw [c1, c2]
    exact j1
  · show (_ ++ _ : List Int).length = _
    rw [List.length_append, length_flipIf, expand_length _ _ (by simp [cols, hl]), expand_length _ _ (by simp [cols, hl])]

/-! ### R3: every row of pieces lies in some way -/
theorem split_row : ∀ (w : List Int) (sz : List Nat) (n n' : Nat), w.length = sz.length → Pos sz → sz.sum = n + n' → 0 < n → 0 < n' →
    ∃ lw rw win A B, IsSplit w lw rw win ∧ A.length = lw.length ∧ B.length = rw.length ∧ Pos A ∧ Pos B ∧ A.sum = n ∧ B.sum = n' ∧ expand w sz = expand lw A ++ expand rw B
  | [], [], n, n', _, _, h, h1, h2 => by simp at h; omega
  | [], _ :: _, _, _, h, _, _, _, _ => by simp at h
  | _ :: _, [], _, _, h, _, _, _, _ => by simp at h
  | a :: w, s :: sz, n, n', hl, p, hs, h1, h2 => by
    have hl' : w.length = sz.length := by simpa using hl
    have hs' : s + sz.sum = n + n' := by simpa using hs
    by_cases c : n < s
    · refine ⟨[a], a :: w, true, [n], (s - n) :: sz, .inl ⟨rfl, 0, by simp, by simp, by simp⟩, rfl, by simpa using hl.symm, ?_, ?_, by simp, by simp; omega, ?_⟩
      · intro k hk; simp at hk; omega
      · intro k hk
        rcases List.mem_cons.mp hk with q | q
        · omega
        · exact p.tail k q
      · have e : s = n + (s - n) := by omega
        simp only [expand, List.append_nil]
        rw [← List.append_assoc, ← rep_add, ← e]
    · by_cases c2 : n = s
      · have hw : w ≠ [] := by
          intro q
          subst q
          have : sz = [] := List.eq_nil_of_length_eq_zero (by simpa using hl'.symm)
          subst this
          simp at hs'; omega
        have hw' := List.length_pos_iff.mpr hw
        refine ⟨[a], w, false, [s], sz, .inr ⟨rfl, 1, Nat.le_refl _, by simp; omega, by simp, by simp⟩, rfl, hl'.symm, ?_, p.tail, by simp; omega, by omega, by simp [expand]⟩
        intro k hk; simp at hk; have := p.head; omega
      · obtain ⟨lw, rw, win, A, B, hsp, la, lb, pa, pb, sa, sb, e⟩ := split_row w sz (n - s) n' hl' p.tail (by omega) (by omega) h2
        refine ⟨a :: lw, rw, win, s :: A, B, ?_, by simp [la], lb, ?_, pb, by simp; omega, sb, by simp [expand, e]⟩
        · rcases hsp with ⟨rfl, q, hq, rfl, rfl⟩ | ⟨rfl, q, hq1, hq, rfl, rfl⟩
          · exact .inl ⟨rfl, q + 1, by simp; omega, by simp, by simp⟩
          · exact .inr ⟨rfl, q + 1, by omega, by simp; omega, by simp, by simp⟩
        · intro k hk
          rcases List.mem_cons.mp hk with q | q
          · have := p.head; omega
          · exact pa k q
def mg : Nat → Nat → Nat → List Nat → List Nat → List ((Nat × Nat) × Nat)
  | f + 1, i, j, a :: as, b :: bs =>
    if a < b then ((i, j), a) :: mg f (i + 1) j as ((b - a) :: bs)
    else if b < a then ((i, j), b) :: mg f i (j + 1) ((a - b) :: as) bs
    else ((i, j), a) :: mg f (i + 1) (j + 1) as bs
  | _, _, _, _, _ => []
theorem pos_sum_zero {ls : List Nat} (p : Pos ls) (h : ls.sum = 0) : ls = [] := by
  cases ls with
  | nil => rfl
  | cons a l => have := p.head; simp at h; omega
theorem mg_ok : ∀ (f i j : Nat) (A B : List Nat), A.length + B.length ≤ f → Pos A → Pos B → A.sum = B.sum → A ≠ [] →
    WayFrom (i + A.length) (j + B.length) i j ((mg f i j A B).map Prod.fst) ∧ Pos ((mg f i j A B).map Prod.snd) ∧
    (∀ {α : Type} (g : Nat → α), expand ((mg f i j A B).map fun p => g p.1.1) ((mg f i j A B).map Prod.snd) = expand ((List.range' i A.length).map g) A) ∧
    (∀ {α : Type} (g : Nat → α), expand ((mg f i j A B).map fun p => g p.1.2) ((mg f i j A B).map Prod.snd) = expand ((List.range' j B.length).map g) B) ∧
    ((mg f i j A B).map Prod.snd).sum = A.sum := by
  intro f
  induction f with
  | zero =>
    intro i j A B h _ _ _ hA
    have := List.length_pos_iff.mpr hA
    omega
  | succ f ih =>
    intro i j A B hf pA pB hs hA
    cases A with
    | nil => exact absurd rfl hA
    | cons a as =>
      cases B with
      | nil => have := pA.head; simp at hs; omega
      | cons b bs =>
        have ha := pA.head
        have hb := pB.head
        have hs' : a + as.sum = b + bs.sum := by simpa using hs
        have hf' : as.length + bs.length + 2 ≤ f + 1 := by simp at hf; omega
        by_cases c : a < b
        · have has : as ≠ [] := by
            intro q; subst q; simp at hs'; omega
          have hl := List.length_pos_iff.mpr has
          have pB' : Pos ((b - a) :: bs) := fun k hk => by
            rcases List.mem_cons.mp hk with q | q
            · omega
            · exact pB.tail k q
          obtain ⟨w1, w2, w3, w4, w5⟩ := ih (i + 1) j as ((b - a) :: bs) (by simp; omega) pA.tail pB' (by simp; omega) has
          have e : mg (f + 1) i j (a :: as) (b :: bs) = ((i, j), a) :: mg f (i + 1) j as ((b - a) :: bs) := by rw [mg, if_pos c]
          rw [e]
          refine ⟨?_, ?_, ?_, ?_, ?_⟩
          · rw [List.map_cons]
            refine .rt (by simp; omega) (by simp) ?_
            have e1 : i + (a :: as).length = i + 1 + as.length := by simp; omega
            have e2 : (b :: bs).length = ((b - a) :: bs).length := by simp
            rw [e1, e2]; exact w1
          · intro k hk
            rw [List.map_cons] at hk
            rcases List.mem_cons.mp hk with q | q
            · rw [q]; exact ha
            · exact w2 k q
          · intro α g
            simp only [List.map_cons, expand, List.length_cons, List.range'_succ]
            rw [w3 g]
          · intro α g
            simp only [List.map_cons, expand]
            rw [w4 g]
            simp only [List.length_cons, List.range'_succ, List.map_cons, expand]
            rw [← List.append_assoc, ← rep_add]
            have : a + (b - a) = b := by omega
            rw [this]
          · simp only [List.map_cons, List.sum_cons]
            rw [w5]
        · by_cases c2 : b < a
          · have hbs : bs ≠ [] := by
              intro q; subst q; simp at hs'; omega
            have hl := List.length_pos_iff.mpr hbs
            have pA' : Pos ((a - b) :: as) := fun k hk => by
              rcases List.mem_cons.mp hk with q | q
              · omega
              · exact pA.tail k q
            obtain ⟨w1, w2, w3, w4, w5⟩ := ih i (j + 1) ((a - b) :: as) bs (by simp; omega) pA' pB.tail (by simp; omega) (by simp)
            have e : mg (f + 1) i j (a :: as) (b :: bs) = ((i, j), b) :: mg f i (j + 1) ((a - b) :: as) bs := by rw [mg, if_neg c, if_pos c2]
            rw [e]
            refine ⟨?_, ?_, ?_, ?_, ?_⟩
            · rw [List.map_cons]
              refine .dn (by simp) (by simp; omega) ?_
              have e1 : j + (b :: bs).length = j + 1 + bs.length := by simp; omega
              have e2 : (a :: as).length = ((a - b) :: as).length := by simp
              rw [e1, e2]; exact w1
            · intro k hk
              rw [List.map_cons] at hk
              rcases List.mem_cons.mp hk with q | q
              · rw [q]; exact hb
              · exact w2 k q
            · intro α g
              simp only [List.map_cons, expand]
              rw [w3 g]
              simp only [List.length_cons, List.range'_succ, List.map_cons, expand]
              rw [← List.append_assoc, ← rep_add]
              have : b + (a - b) = a := by omega
              rw [this]
            · intro α g
              simp only [List.map_cons, expand, List.length_cons, List.range'_succ]
              rw [w4 g]
            · simp only [List.map_cons, List.sum_cons]
              rw [w5]
              simp; omega
          · have hab : a = b := by omega
            subst hab
            have e : mg (f + 1) i j (a :: as) (a :: bs) = ((i, j), a) :: mg f (i + 1) (j + 1) as bs := by rw [mg, if_neg c, if_neg c2]
            rw [e]
            by_cases has : as = []
            · subst has
              have hbs : bs = [] := pos_sum_zero pB.tail (by simp at hs'; omega)
              subst hbs
              have e0 : mg f (i + 1) (j + 1) [] [] = [] := by cases f <;> rfl
              rw [e0]
              refine ⟨.last rfl rfl, ?_, ?_, ?_, by simp⟩
              · intro k hk; simp at hk; omega
              · intro α g; simp [expand]
              · intro α g; simp [expand]
            · have hl := List.length_pos_iff.mpr has
              have hbs : bs ≠ [] := by
                intro q; subst q
                exact has (pos_sum_zero pA.tail (by simp at hs'; omega))
              have hl2 := List.length_pos_iff.mpr hbs
              obtain ⟨w1, w2, w3, w4, w5⟩ := ih (i + 1) (j + 1) as bs (by omega) pA.tail pB.tail (by omega) has
              refine ⟨?_, ?_, ?_, ?_, ?_⟩
              · rw [List.map_cons]
                refine .bo (by simp; omega) (by simp; omega) ?_
                have e1 : i + (a :: as).length = i + 1 + as.length := by simp; omega
                have e2 : j + (a :: bs).length = j + 1 + bs.length := by simp; omega
                rw [e1, e2]; exact w1
              · intro k hk
                rw [List.map_cons] at hk
                rcases List.mem_cons.mp hk with q | q
                · rw [q]; exact ha
                · exact w2 k q
              · intro α g
                simp only [List.map_cons, expand, List.length_cons, List.range'_succ]
                rw [w3 g]
              · intro α g
                simp only [List.map_cons, expand, List.length_cons, List.range'_succ]
                rw [w4 g]
              · simp only [List.map_cons, List.sum_cons]
                rw [w5]
/-- R3 -/
theorem row_lies (sm : Bool) {w : List Int} {sz : List Nat} {n : Nat} (hl : w.length = sz.length) (p : Pos sz) (hs : sz.sum = n + n) (hn : 0 < n) :
    ∃ l ls, LevOf w l ∧ ls.length = l.way.length ∧ Pos ls ∧ ls.sum = n ∧ (expand w sz).take n = expand ((cols sm l).map Prod.fst) ls ∧
      (expand w sz).drop n = flipIf (!sm) (expand ((cols sm l).map Prod.snd) ls) := by
  obtain ⟨lw, rw, win, A, B, hsp, la, lb, pa, pb, sa, sb, e⟩ := split_row w sz n n hl p hs hn hn
  have hpos := hsp.pos
  have pB' : Pos (flipIf (!sm) B) := fun k hk => pb k (mem_flipIf.mp hk)
  have sB' : (flipIf (!sm) B).sum = n := by
    rw [← sb]
    exact (flipIf_perm (!sm) B).sum_nat
  have hA : A ≠ [] := by intro q; subst q; simp at la; omega
  obtain ⟨w1, w2, w3, w4, w5⟩ := mg_ok (A.length + (flipIf (!sm) B).length) 0 0 A (flipIf (!sm) B) (Nat.le_refl _) pa pB' (by rw [sB', sa]) hA
  let r := mg (A.length + (flipIf (!sm) B).length) 0 0 A (flipIf (!sm) B)
  refine ⟨⟨lw, rw, win, r.map Prod.fst⟩, r.map Prod.snd, ⟨hsp, ?_⟩, by simp, w2, by rw [← sa]; exact w5, ?_, ?_⟩
  · show WayFrom lw.length rw.length 0 0 (r.map Prod.fst)
    have e1 : 0 + A.length = lw.length := by omega
    have e2 : 0 + (flipIf (!sm) B).length = rw.length := by rw [length_flipIf]; omega
    rw [e1, e2] at w1
    exact w1
  · have e1 : (cols sm ⟨lw, rw, win, r.map Prod.fst⟩).map Prod.fst = r.map fun p => lw.getD p.1.1 0 := by simp [cols]
    rw [e1, w3 (fun i => lw.getD i 0), ← List.range_eq_range', la, range_getD, e, List.take_append_of_le_length (by rw [expand_length _ _ la.symm]; omega),
      List.take_of_length_le (by rw [expand_length _ _ la.symm]; omega)]
  · have e1 : (cols sm ⟨lw, rw, win, r.map Prod.fst⟩).map Prod.snd = r.map fun p => (flipIf (!sm) rw).getD p.1.2 0 := by simp [cols]
    have e2 : (flipIf (!sm) B).length = (flipIf (!sm) rw).length := by rw [length_flipIf, length_flipIf, lb]
    rw [e1, w4 (fun i => (flipIf (!sm) rw).getD i 0), ← List.range_eq_range', e2, range_getD, ← expand_flipIf _ _ _ lb.symm, flipIf_flipIf, e]
    rw [List.drop_append_of_le_length (by rw [expand_length _ _ la.symm]; omega), List.drop_eq_nil_of_le (by rw [expand_length _ _ la.symm]; omega)]
    cases sm <;> rfl
end K6
set_option linter.all false
namespace K6

/-! ### order -/
def srt (up : Bool) (l : List Int) : Prop := if up then l.Pairwise (· ≤ ·) else l.Pairwise (fun a b => b ≤ a)
instance (up : Bool) (l : List Int) : Decidable (srt up l) := by unfold srt; cases up <;> infer_instance
def leB (up : Bool) (a b : Int) : Prop := if up then a ≤ b else b ≤ a
theorem srt_append {up : Bool} {A B : List Int} : srt up (A ++ B) ↔ srt up A ∧ srt up B ∧ ∀ a ∈ A, ∀ b ∈ B, leB up a b := by
  cases up <;> simp [srt, leB, List.pairwise_append]
theorem srt_flip {t up : Bool} {l : List Int} : srt up (flipIf t l) ↔ srt (up != t) l := by
  cases t <;> cases up <;> simp [srt, flipIf, List.pairwise_reverse]
theorem srt_short {up : Bool} {l : List Int} (h : l.length ≤ 1) : srt up l := by
  match l, h with
  | [], _ => cases up <;> simp [srt]
  | [a], _ => cases up <;> simp [srt]
theorem srt_expand {up : Bool} : ∀ {w : List Int} {ls : List Nat}, w.length = ls.length → Pos ls → (srt up (expand w ls) ↔ srt up w)
  | [], [], _, _ => by simp [expand]
  | [], _ :: _, h, _ => by simp at h
  | _ :: _, [], h, _ => by simp at h
  | a :: w, n :: ls, h, p => by
    have h' : w.length = ls.length := by simpa using h
    have ih := srt_expand (up := up) h' p.tail
    have e : a :: w = [a] ++ w := rfl
    have hn : n ≠ 0 := Nat.ne_of_gt p.head
    rw [expand, srt_append, e, srt_append, ih]
    have r : srt up (List.replicate n a) := by cases up <;> simp [srt, List.pairwise_replicate]
    have s : srt up [a] := srt_short (by simp)
    constructor
    · rintro ⟨_, h2, h3⟩
      refine ⟨s, h2, fun x hx b hb => h3 x ?_ b ((mem_expand h' p.tail).mpr hb)⟩
      simp at hx
      simp [hx, hn]
    · rintro ⟨_, h2, h3⟩
      refine ⟨r, h2, fun x hx b hb => h3 x ?_ b ((mem_expand h' p.tail).mp hb)⟩
      simp at hx
      simp [hx.2]

/-! ### what a loom does -/
theorem stepR_len (s : Stp) (p : List Int × List Int) (h : p.1.length = p.2.length) : (stepR s p).1.length = p.1.length ∧ (stepR s p).2.length = p.1.length := by
  cases s with
  | swap => simp [stepR, h]
  | flip z => cases z <;> simp [stepR, h]
  | cmp x up => simp [stepR, length_flipIf, h]
theorem fold_len (st : List Stp) : ∀ (p : List Int × List Int), p.1.length = p.2.length →
    (st.foldl (fun p s => stepR s p) p).1.length = p.1.length ∧ (st.foldl (fun p s => stepR s p) p).2.length = p.1.length := by
  induction st with
  | nil => intro p h; exact ⟨rfl, h.symm⟩
  | cons s st ih =>
    intro p h
    have h1 := stepR_len s p h
    have h2 := ih (stepR s p) (by rw [h1.1, h1.2])
    rw [List.foldl_cons]
    exact ⟨h2.1.trans h1.1, h2.2.trans h1.1⟩
theorem perm_ord (up : Bool) : ∀ (l r : List Int), l.length = r.length → (((List.zipWith (ordP up) l r).map Prod.fst) ++ ((List.zipWith (ordP up) l r).map Prod.snd)).Perm (l ++ r)
  | [], [], _ => .refl _
  | [], _ :: _, h => by simp at h
  | _ :: _, [], h => by simp at h
  | a :: l, b :: r, h => by
    have h' : l.length = r.length := by simpa using h
    have ih := perm_ord up l r h'
    have e : (ordP up a b = (a, b)) ∨ (ordP up a b = (b, a)) := by
      unfold ordP
      cases up
      · by_cases q : a ≤ b
        · right; simp [Int.max_eq_right q, Int.min_eq_left q]
        · left; simp [Int.max_eq_left (by omega : b ≤ a), Int.min_eq_right (by omega : b ≤ a)]
      · by_cases q : a ≤ b
        · left; simp [Int.max_eq_right q, Int.min_eq_left q]
        · right; simp [Int.max_eq_left (by omega : b ≤ a), Int.min_eq_right (by omega : b ≤ a)]
    simp only [List.zipWith_cons_cons, List.map_cons]
    have main : ∀ x y : Int, (x :: (List.zipWith (ordP up) l r).map Prod.fst ++ y :: (List.zipWith (ordP up) l r).map Prod.snd).Perm (x :: y :: (l ++ r)) := fun x y => by
      refine List.Perm.cons x ?_
      exact List.perm_middle.trans (List.Perm.cons y ih)
    have fin : (a :: b :: (l ++ r)).Perm (a :: l ++ b :: r) := (List.Perm.cons a List.perm_middle).symm
    rcases e with e | e
    · rw [e]; exact (main a b).trans fin
    · rw [e]; exact ((main b a).trans (List.Perm.swap _ _ _)).trans fin
theorem stepR_perm (s : Stp) (p : List Int × List Int) (h : p.1.length = p.2.length) : ((stepR s p).1 ++ (stepR s p).2).Perm (p.1 ++ p.2) := by
  cases s with
  | swap => exact List.perm_append_comm
  | flip z =>
    cases z with
    | left => exact List.Perm.append (List.reverse_perm _) (.refl _)
    | right => exact List.Perm.append (.refl _) (List.reverse_perm _)
    | both => exact List.Perm.append (List.reverse_perm _) (List.reverse_perm _)
    | all => exact (List.Perm.append (List.reverse_perm _) (List.reverse_perm _)).trans List.perm_append_comm
  | cmp x up =>
    refine (List.Perm.append (.refl _) (flipIf_perm _ _)).trans ?_
    refine (perm_ord up p.1 (flipIf (!x) p.2) (by rw [length_flipIf]; exact h)).trans ?_
    exact List.Perm.append (.refl _) (flipIf_perm _ _)
theorem fold_perm (st : List Stp) : ∀ (p : List Int × List Int), p.1.length = p.2.length →
    ((st.foldl (fun p s => stepR s p) p).1 ++ (st.foldl (fun p s => stepR s p) p).2).Perm (p.1 ++ p.2) := by
  induction st with
  | nil => intro p h; exact .refl _
  | cons s st ih =>
    intro p h
    have h1 := stepR_len s p h
    rw [List.foldl_cons]
    exact (ih (stepR s p) (by rw [h1.1, h1.2])).trans (stepR_perm s p h)
theorem halves_len {row : List Int} {n : Nat} (h : row.length = n + n) : (halves row).1.length = n ∧ (halves row).2.length = n ∧ (halves row).1 = row.take n ∧ (halves row).2 = row.drop n := by
  have e : row.length / 2 = n := by omega
  refine ⟨?_, ?_, ?_, ?_⟩
  · show (row.take (row.length / 2)).length = n
    rw [List.length_take]; omega
  · show (row.drop (row.length / 2)).length = n
    rw [List.length_drop]; omega
  · show row.take (row.length / 2) = _
    rw [e]
  · show row.drop (row.length / 2) = _
    rw [e]
theorem pow_succ2 (k : Nat) : 2 ^ (k + 1) = 2 ^ k + 2 ^ k := by rw [Nat.pow_succ]; omega
theorem callN_perm_of {L : Looms} {k : Nat} (h : ∀ nm row, row.length = 2 ^ k → (doneN L k nm row).Perm row) (c : Option (Nat × Bool)) (row : List Int) (hr : row.length = 2 ^ k) : (callN L k c row).Perm row := by
  cases c with
  | none => rw [callN]
  | some c =>
    obtain ⟨n, t⟩ := c
    rw [callN]
    exact (flipIf_perm _ _).trans ((h n _ (by rw [length_flipIf]; exact hr)).trans (flipIf_perm _ _))
theorem doneN_perm {L : Looms} {k nm : Nat} {row : List Int} (h : row.length = 2 ^ k) : (doneN L k nm row).Perm row := by
  induction k generalizing nm row with
  | zero => rw [doneN]
  | succ k ih =>
    have call' := callN_perm_of (L := L) (k := k) fun nm row hr => ih hr
    rw [pow_succ2] at h
    obtain ⟨h1, h2, h3, h4⟩ := halves_len h
    have fl := fold_len (L.at nm).steps (halves row) (by rw [h1, h2])
    have fp := fold_perm (L.at nm).steps (halves row) (by rw [h1, h2])
    rw [doneN]
    refine (List.Perm.append (call' _ _ (by rw [fl.1, h1])) (call' _ _ (by rw [fl.2, h1]))).trans (fp.trans ?_)
    rw [h3, h4, List.take_append_drop]
theorem callN_perm {L : Looms} {k : Nat} {c : Option (Nat × Bool)} {row : List Int} (h : row.length = 2 ^ k) : (callN L k c row).Perm row := callN_perm_of (fun _ _ hr => doneN_perm hr) c row h
theorem doneN_len {L : Looms} {k nm : Nat} {row : List Int} (h : row.length = 2 ^ k) : (doneN L k nm row).length = 2 ^ k := (doneN_perm h).length_eq.trans h

/-! ### nodes -/
structure Node where
  nm : Nat
  up : Bool
  w : List Int
  deriving DecidableEq, Repr
abbrev Lvl := List Stp × Lev
def trn (st : List Stp) (side : Bool) : Bool := if side then (turnsT st (false, !same st)).2 else (turnsT st (false, !same st)).1
def finCols (v : Lvl) : List (Int × Int) := (cols (same v.1) v.2).map (colF v.1)
def prj (side : Bool) (c : Int × Int) : Int := if side then c.2 else c.1
/-- the signs of the pieces of a half -/
def halfW (v : Lvl) (side : Bool) : List Int := flipIf (trn v.1 side) ((finCols v).map (prj side))
/-- the halves cross -/
def isBad (v : Lvl) (up : Bool) : Prop := (1 ∈ (finCols v).map (prj (!up))) ∧ (0 ∈ (finCols v).map (prj up))
instance (v : Lvl) (up : Bool) : Decidable (isBad v up) := by unfold isBad; infer_instance
def child (c : Nat × Bool) (up : Bool) (w : List Int) : Node := ⟨c.1, up != c.2, flipIf c.2 w⟩
structure PRow where
  lv : Lvl
  side : Option Bool
  node : Option Node
  turned : Bool
  deriving DecidableEq, Repr
/-- the rows that steps_of tells of a node -/
def RowOf (L : Looms) (n : Node) (r : PRow) : Prop :=
  r.lv.1 = (L.at n.nm).steps ∧ LevOf n.w r.lv.2 ∧
    ((r = ⟨r.lv, none, none, false⟩ ∧ (isBad r.lv n.up ∨ ∃ s, (L.at n.nm).call s = none ∧ ¬ srt n.up (halfW r.lv s))) ∨
     (∃ s c, (L.at n.nm).call s = some c ∧ r = ⟨r.lv, some s, some (child c n.up (halfW r.lv s)), c.2⟩))
def FailsRow (F : Node → Prop) (j : Nat) (r : PRow) : Prop := r.lv.2.way.length ≤ 2 ^ j ∧ (r.node = none ∨ ∃ m, r.node = some m ∧ F m)
def Fails (L : Looms) : Nat → Node → Prop
  | 0, _ => False
  | k + 1, n => ∃ r, RowOf L n r ∧ FailsRow (Fails L k) k r
def InsideAll (L : Looms) : Prop := ∀ n, Inside (L.at n).steps
def Sign (w : List Int) : Prop := ∀ x ∈ w, x = 0 ∨ x = 1

theorem halfW_len (v : Lvl) (s : Bool) : (halfW v s).length = v.2.way.length := by
  simp [halfW, length_flipIf, finCols, cols]
/-- the halves behind a loom's steps, where a row lies as a level tells -/
theorem fold_level {st : List Stp} (h : Inside st) {l : Lev} {ls : List Nat} (hl : ls.length = l.way.length) :
    st.foldl (fun p s => stepR s p) (expand ((cols (same st) l).map Prod.fst) ls, flipIf (!same st) (expand ((cols (same st) l).map Prod.snd) ls)) =
      (expand (halfW (st, l) false) (flipIf (trn st false) ls), expand (halfW (st, l) true) (flipIf (trn st true) ls)) := by
  rw [expand_map, expand_map, steps_real h, finC_eq]
  have hc : (cols (same st) l).length = ls.length := by simp [cols, hl]
  have e : ∀ (t : Bool) (f : Int × Int → Int), flipIf t (((expand (cols (same st) l) ls).map (colF st)).map f) = expand (flipIf t (((cols (same st) l).map (colF st)).map f)) (flipIf t ls) := by
    intro t f
    rw [← expand_map, ← expand_map]
    exact expand_flipIf t _ ls (by simp [hc])
  show (flipIf _ _, flipIf _ _) = _
  rw [e, e]
  rfl
theorem done_level {L : Looms} (hI : InsideAll L) {k : Nat} {n : Node} {l : Lev} {ls : List Nat} (hl : ls.length = l.way.length) (hs : ls.sum = 2 ^ k) {row : List Int}
    (hlen : row.length = 2 ^ (k + 1)) (h1 : row.take (2 ^ k) = expand ((cols (same (L.at n.nm).steps) l).map Prod.fst) ls) (h2 : row.drop (2 ^ k) = flipIf (!same (L.at n.nm).steps) (expand ((cols (same (L.at n.nm).steps) l).map Prod.snd) ls)) :
    doneN L (k + 1) n.nm row = callN L k (L.at n.nm).one (expand (halfW ((L.at n.nm).steps, l) false) (flipIf (trn (L.at n.nm).steps false) ls)) ++
      callN L k (L.at n.nm).two (expand (halfW ((L.at n.nm).steps, l) true) (flipIf (trn (L.at n.nm).steps true) ls)) := by
  rw [pow_succ2] at hlen
  obtain ⟨_, _, h3, h4⟩ := halves_len hlen
  have e : halves row = (expand ((cols (same (L.at n.nm).steps) l).map Prod.fst) ls, flipIf (!same (L.at n.nm).steps) (expand ((cols (same (L.at n.nm).steps) l).map Prod.snd) ls)) := by
    rw [← h1, ← h2, ← h3, ← h4]
  rw [doneN, e, fold_level (hI n.nm) hl]

theorem Pos.flip {t : Bool} {ls : List Nat} (p : Pos ls) : Pos (flipIf t ls) := fun k hk => p k (mem_flipIf.mp hk)
theorem flip_sum {t : Bool} {ls : List Nat} : (flipIf t ls).sum = ls.sum := (flipIf_perm t ls).sum_nat
theorem len_le_sum : ∀ {ls : List Nat}, Pos ls → ls.length ≤ ls.sum
  | [], _ => by simp
  | n :: ls, p => by
    have := len_le_sum p.tail
    have := p.head
    simp; omega
theorem ordP_sign {up : Bool} {a b : Int} (ha : a = 0 ∨ a = 1) (hb : b = 0 ∨ b = 1) : ((ordP up a b).1 = 0 ∨ (ordP up a b).1 = 1) ∧ ((ordP up a b).2 = 0 ∨ (ordP up a b).2 = 1) := by
  rcases ha with rfl | rfl <;> rcases hb with rfl | rfl <;> cases up <;> decide
theorem colF_sign (st : List Stp) : ∀ (c : Int × Int), (c.1 = 0 ∨ c.1 = 1) → (c.2 = 0 ∨ c.2 = 1) → ((colF st c).1 = 0 ∨ (colF st c).1 = 1) ∧ ((colF st c).2 = 0 ∨ (colF st c).2 = 1) := by
  induction st with
  | nil => intro c h1 h2; exact ⟨h1, h2⟩
  | cons s st ih =>
    intro c h1 h2
    have e : colF (s :: st) c = colF st (match s with | .swap | .flip .all => c.swap | .cmp _ up => ordP up c.1 c.2 | _ => c) := rfl
    rw [e]
    cases s with
    | swap => exact ih _ h2 h1
    | cmp x up => exact ih _ (ordP_sign h1 h2).1 (ordP_sign h1 h2).2
    | flip z =>
      cases z with
      | all => exact ih _ h2 h1
      | left => exact ih _ h1 h2
      | right => exact ih _ h1 h2
      | both => exact ih _ h1 h2
theorem getD_sign {w : List Int} (h : Sign w) (i : Nat) : w.getD i 0 = 0 ∨ w.getD i 0 = 1 := by
  rw [List.getD_eq_getElem?_getD]
  cases e : w[i]? with
  | none => exact .inl rfl
  | some x => exact h x (List.mem_of_getElem? e)
theorem cols_sign {sm : Bool} {w : List Int} {l : Lev} (h : Sign w) (hl : LevOf w l) : ∀ c ∈ cols sm l, (c.1 = 0 ∨ c.1 = 1) ∧ (c.2 = 0 ∨ c.2 = 1) := by
  intro c hc
  obtain ⟨p, _, rfl⟩ := List.mem_map.mp hc
  have m := hl.1.mem
  exact ⟨getD_sign (fun x hx => h x (m.1 x hx)) _, getD_sign (fun x hx => h x (m.2 x (mem_flipIf.mp hx))) _⟩
theorem fin_sign {w : List Int} {v : Lvl} (h : Sign w) (hl : LevOf w v.2) : ∀ c ∈ finCols v, (c.1 = 0 ∨ c.1 = 1) ∧ (c.2 = 0 ∨ c.2 = 1) := by
  intro c hc
  obtain ⟨d, hd, rfl⟩ := List.mem_map.mp hc
  have := cols_sign h hl d hd
  exact colF_sign v.1 d this.1 this.2
theorem halfW_sign {w : List Int} {v : Lvl} (h : Sign w) (hl : LevOf w v.2) (s : Bool) : Sign (halfW v s) := by
  intro x hx
  obtain ⟨c, hc, rfl⟩ := List.mem_map.mp (mem_flipIf.mp hx)
  have := fin_sign h hl c hc
  cases s
  · exact this.1
  · exact this.2
theorem mem_half {v : Lvl} {s : Bool} {x : Int} : x ∈ halfW v s ↔ x ∈ (finCols v).map (prj s) := mem_flipIf
/-- crossing halves -/
theorem cross_iff {A B : List Int} {up : Bool} (hA : Sign A) (hB : Sign B) : (¬ ∀ a ∈ A, ∀ b ∈ B, leB up a b) ↔ (if up then 1 ∈ A ∧ 0 ∈ B else 1 ∈ B ∧ 0 ∈ A) := by
  constructor
  · intro h
    cases up with
    | true =>
      refine ⟨Classical.byContradiction fun q => h fun a ha b hb => ?_, Classical.byContradiction fun q => h fun a ha b hb => ?_⟩
      · rcases hA a ha with e | e
        · rcases hB b hb with e2 | e2 <;> subst e <;> subst e2 <;> simp [leB]
        · exact absurd (e ▸ ha) q
      · rcases hB b hb with e | e
        · exact absurd (e ▸ hb) q
        · rcases hA a ha with e2 | e2 <;> subst e <;> subst e2 <;> simp [leB]
    | false =>
      refine ⟨Classical.byContradiction fun q => h fun a ha b hb => ?_, Classical.byContradiction fun q => h fun a ha b hb => ?_⟩
      · rcases hB b hb with e | e
        · rcases hA a ha with e2 | e2 <;> subst e <;> subst e2 <;> simp [leB]
        · exact absurd (e ▸ hb) q
      · rcases hA a ha with e | e
        · exact absurd (e ▸ ha) q
        · rcases hB b hb with e2 | e2 <;> subst e <;> subst e2 <;> simp [leB]
  · intro h q
    cases up with
    | true => have := q 1 h.1 0 h.2; simp [leB] at this
    | false => have := q 0 h.2 1 h.1; simp [leB] at this
theorem bad_iff {v : Lvl} {up : Bool} : isBad v up ↔ (if up then 1 ∈ halfW v false ∧ 0 ∈ halfW v true else 1 ∈ halfW v true ∧ 0 ∈ halfW v false) := by
  cases up <;> simp only [isBad, mem_half, Bool.not_true, Bool.not_false, if_true, Bool.false_eq_true, if_false]

theorem Sign.expand {w : List Int} {ls : List Nat} (h : Sign w) (hl : w.length = ls.length) (p : Pos ls) : Sign (expand w ls) := fun x hx => h x ((mem_expand hl p).mp hx)

theorem callN_srt {L : Looms} {k : Nat} {up : Bool} {c : Nat × Bool} {row : List Int} : srt up (callN L k (some c) row) ↔ srt (up != c.2) (doneN L k c.1 (flipIf c.2 row)) := by
  obtain ⟨n, t⟩ := c
  rw [callN, srt_flip]

/-- A1: a row that is not sorted shows that its node fails -/
theorem fails_of {L : Looms} (hI : InsideAll L) : ∀ (k : Nat) (n : Node) (sz : List Nat), n.w.length = sz.length → Pos sz → sz.sum = 2 ^ k → Sign n.w →
    ¬ srt n.up (doneN L k n.nm (expand n.w sz)) → Fails L k n := by
  intro k
  induction k with
  | zero =>
    intro n sz hl p hs hw hbad
    refine absurd ?_ hbad
    rw [doneN]
    exact srt_short (by rw [expand_length _ _ hl, hs]; exact Nat.le_refl 1)
  | succ k ih =>
    intro n sz hl p hs hw hbad
    have h0 : 0 < 2 ^ k := Nat.pow_pos (by decide)
    obtain ⟨l, ls, hlev, hll, pl, hsum, ht, hd⟩ := row_lies (same (L.at n.nm).steps) hl p (by rw [hs, pow_succ2]) h0
    have hrow : (expand n.w sz).length = 2 ^ (k + 1) := by rw [expand_length _ _ hl, hs]
    rw [done_level hI hll hsum hrow ht hd] at hbad
    let v : Lvl := ((L.at n.nm).steps, l)
    have hvl : ∀ s, (halfW v s).length = (flipIf (trn v.1 s) ls).length := fun s => by rw [halfW_len, length_flipIf]; exact hll.symm
    have hel : ∀ s, (expand (halfW v s) (flipIf (trn v.1 s) ls)).length = 2 ^ k := fun s => by rw [expand_length _ _ (hvl s), flip_sum, hsum]
    have hway : l.way.length ≤ 2 ^ k := by rw [← hll, ← hsum]; exact len_le_sum pl
    have bad : ∀ s, ¬ srt n.up (callN L k ((L.at n.nm).call s) (expand (halfW v s) (flipIf (trn v.1 s) ls))) → Fails L (k + 1) n := by
      intro s hns
      cases hc : (L.at n.nm).call s with
      | none =>
        rw [hc, callN, srt_expand (hvl s) pl.flip] at hns
        exact ⟨⟨v, none, none, false⟩, ⟨rfl, hlev, .inl ⟨rfl, .inr ⟨s, hc, hns⟩⟩⟩, hway, .inl rfl⟩
      | some c =>
        rw [hc, callN_srt, expand_flipIf _ _ _ (hvl s)] at hns
        refine ⟨⟨v, some s, some (child c n.up (halfW v s)), c.2⟩, ⟨rfl, hlev, .inr ⟨s, c, hc, rfl⟩⟩, hway, .inr ⟨_, rfl, ?_⟩⟩
        refine ih (child c n.up (halfW v s)) (flipIf c.2 (flipIf (trn v.1 s) ls)) ?_ pl.flip.flip ?_ ?_ hns
        · show (flipIf c.2 (halfW v s)).length = _
          rw [length_flipIf, length_flipIf, hvl]
        · rw [flip_sum, flip_sum, hsum]
        · exact fun x hx => halfW_sign hw hlev s x (mem_flipIf.mp hx)
    by_cases b1 : srt n.up (callN L k ((L.at n.nm).call false) (expand (halfW v false) (flipIf (trn v.1 false) ls)))
    · by_cases b2 : srt n.up (callN L k ((L.at n.nm).call true) (expand (halfW v true) (flipIf (trn v.1 true) ls)))
      · have hx : ¬ ∀ a ∈ callN L k ((L.at n.nm).call false) (expand (halfW v false) (flipIf (trn v.1 false) ls)), ∀ b ∈ callN L k ((L.at n.nm).call true) (expand (halfW v true) (flipIf (trn v.1 true) ls)), leB n.up a b :=
          fun q => hbad (srt_append.mpr ⟨b1, b2, q⟩)
        have pm : ∀ s x, x ∈ callN L k ((L.at n.nm).call s) (expand (halfW v s) (flipIf (trn v.1 s) ls)) ↔ x ∈ halfW v s := fun s x => by
          rw [(callN_perm (hel s)).mem_iff]
          exact mem_expand (hvl s) pl.flip
        have hsg : ∀ s, Sign (callN L k ((L.at n.nm).call s) (expand (halfW v s) (flipIf (trn v.1 s) ls))) := fun s x hx => halfW_sign hw hlev s x ((pm s x).mp hx)
        rw [cross_iff (hsg false) (hsg true)] at hx
        refine ⟨⟨v, none, none, false⟩, ⟨rfl, hlev, .inl ⟨rfl, .inl (bad_iff.mpr ?_)⟩⟩, hway, .inl rfl⟩
        simp only [pm] at hx
        exact hx
      · exact bad true b2
    · exact bad false b1

/-! ### paths, and the row that is built along one -/
abbrev PStep := Lvl × Bool × Bool
inductive PathOk (L : Looms) : Node → List PStep → Node → Prop
  | nil {n : Node} : PathOk L n [] n
  | cons {n e : Node} {v : Lvl} {s : Bool} {c : Nat × Bool} {p : List PStep} : v.1 = (L.at n.nm).steps → LevOf n.w v.2 → (L.at n.nm).call s = some c →
      PathOk L (child c n.up (halfW v s)) p e → PathOk L n ((v, s, c.2) :: p) e
theorem PathOk.snoc {L : Looms} {n e : Node} {p : List PStep} (h : PathOk L n p e) {v : Lvl} {s : Bool} {c : Nat × Bool} (h1 : v.1 = (L.at e.nm).steps) (h2 : LevOf e.w v.2) (h3 : (L.at e.nm).call s = some c) :
    PathOk L n (p ++ [(v, s, c.2)]) (child c e.up (halfW v s)) := by
  induction h with
  | nil => exact .cons h1 h2 h3 .nil
  | cons a b d _ ih => exact .cons a b d (ih h1 h2 h3)
def backS (e : PStep) (r : List Int × List Nat) : List Int × List Nat := rowAt (same e.1.1) e.1.2 (flipIf (e.2.2 != trn e.1.1 e.2.1) r.2)
def builtM (p : List PStep) (last : Lvl) (ls : List Nat) : List Int × List Nat := p.foldr backS (rowAt (same last.1) last.2 ls)
theorem rowAt_halves {sm : Bool} {w : List Int} {l : Lev} {ls : List Nat} {k : Nat} (h : LevOf w l) (hl : ls.length = l.way.length) (hs : ls.sum = 2 ^ k) :
    (rowAt sm l ls).1.take (2 ^ k) = expand ((cols sm l).map Prod.fst) ls ∧ (rowAt sm l ls).1.drop (2 ^ k) = flipIf (!sm) (expand ((cols sm l).map Prod.snd) ls) := by
  have e : (expand ((cols sm l).map Prod.fst) ls).length = 2 ^ k := by rw [expand_length _ _ (by simp [cols, hl]), hs]
  refine ⟨?_, ?_⟩
  · show (_ ++ _ : List Int).take _ = _
    rw [List.take_append_of_le_length (by omega), List.take_of_length_le (by omega)]
  · show (_ ++ _ : List Int).drop _ = _
    rw [List.drop_append_of_le_length (by omega), List.drop_eq_nil_of_le (by omega), List.nil_append]
/-- A2: the row that is built is of the root's pieces, and is not sorted -/
theorem built_ok {L : Looms} (hI : InsideAll L) {n e : Node} {p : List PStep} (h : PathOk L n p e) {r : PRow} (hr : RowOf L e r) (hb : r.node = none) {ls : List Nat} {k : Nat} (hl : ls.length = r.lv.2.way.length) (pl : Pos ls) (hs : ls.sum = 2 ^ k) (hw : Sign n.w) :
    (builtM p r.lv ls).1 = expand n.w (builtM p r.lv ls).2 ∧ (builtM p r.lv ls).2.length = n.w.length ∧ Pos (builtM p r.lv ls).2 ∧ (builtM p r.lv ls).1.length = 2 ^ (k + 1 + p.length) ∧
      ¬ srt n.up (doneN L (k + 1 + p.length) n.nm (builtM p r.lv ls).1) := by
  induction h with
  | @nil n =>
    obtain ⟨h1, h2, h3⟩ := hr
    obtain ⟨o1, o2, o3, o4⟩ := rowAt_ok (sm := same r.lv.1) h2 hl pl
    have o4' : (rowAt (same r.lv.1) r.lv.2 ls).1.length = 2 ^ (k + 1) := by rw [o4, hs, pow_succ2]
    refine ⟨o1, o2, o3, o4', ?_⟩
    show ¬ srt n.up (doneN L (k + 1) n.nm (rowAt (same r.lv.1) r.lv.2 ls).1)
    obtain ⟨t1, t2⟩ := rowAt_halves (sm := same r.lv.1) h2 hl hs
    rw [h1] at t1 t2 o4' ⊢
    rw [done_level hI hl hs o4' t1 t2]
    have ev : r.lv = ((L.at n.nm).steps, r.lv.2) := by rw [← h1]
    have hvl : ∀ s, (halfW r.lv s).length = (flipIf (trn r.lv.1 s) ls).length := fun s => by rw [halfW_len, length_flipIf]; exact hl.symm
    have hel : ∀ s, (expand (halfW r.lv s) (flipIf (trn r.lv.1 s) ls)).length = 2 ^ k := fun s => by rw [expand_length _ _ (hvl s), flip_sum, hs]
    rw [← ev, ← h1]
    rintro q
    obtain ⟨q1, q2, q3⟩ := srt_append.mp q
    have pm : ∀ s x, x ∈ callN L k ((L.at n.nm).call s) (expand (halfW r.lv s) (flipIf (trn r.lv.1 s) ls)) ↔ x ∈ halfW r.lv s := fun s x => by
      rw [(callN_perm (hel s)).mem_iff]
      exact mem_expand (hvl s) pl.flip
    rcases h3 with ⟨_, h3⟩ | ⟨s, c, _, h3⟩
    · rcases h3 with h3 | ⟨s, hc, h3⟩
      · have hsg : ∀ s, Sign (callN L k ((L.at n.nm).call s) (expand (halfW r.lv s) (flipIf (trn r.lv.1 s) ls))) := fun s x hx => halfW_sign hw h2 s x ((pm s x).mp hx)
        refine (cross_iff (hsg false) (hsg true)).mpr ?_ q3
        simp only [pm]
        exact bad_iff.mp h3
      · apply h3
        have e : srt n.up (callN L k ((L.at n.nm).call s) (expand (halfW r.lv s) (flipIf (trn r.lv.1 s) ls))) := by cases s <;> assumption
        rw [hc, callN, srt_expand (hvl s) pl.flip] at e
        exact e
    · rw [h3] at hb; cases hb
  | @cons n e v s c p h1 h2 h3 hp ih =>
    have hw' : Sign (child c n.up (halfW v s)).w := fun x hx => halfW_sign hw h2 s x (mem_flipIf.mp hx)
    obtain ⟨i1, i2, i3, i4, i5⟩ := ih hr hw'
    let z := (builtM p r.lv ls).2
    let us := flipIf (c.2 != trn v.1 s) z
    have hz : z.length = v.2.way.length := by
      show (builtM p r.lv ls).2.length = _
      rw [i2]
      show (flipIf c.2 (halfW v s)).length = _
      rw [length_flipIf, halfW_len]
    have hus : us.length = v.2.way.length := by rw [length_flipIf]; exact hz
    have pus : Pos us := Pos.flip i3
    have zs : z.sum = 2 ^ (k + 1 + p.length) := by
      rw [← i4, i1, expand_length _ _ i2.symm]
    have uss : us.sum = 2 ^ (k + 1 + p.length) := by rw [flip_sum]; exact zs
    obtain ⟨o1, o2, o3, o4⟩ := rowAt_ok (sm := same v.1) h2 hus pus
    have hk : k + 1 + (p.length + 1) = k + 1 + p.length + 1 := by omega
    have o4' : (rowAt (same v.1) v.2 us).1.length = 2 ^ (k + 1 + p.length + 1) := by rw [o4, uss, pow_succ2]
    refine ⟨o1, o2, o3, by rw [List.length_cons, hk]; exact o4', ?_⟩
    rw [List.length_cons, hk]
    show ¬ srt n.up (doneN L (k + 1 + p.length + 1) n.nm (rowAt (same v.1) v.2 us).1)
    obtain ⟨t1, t2⟩ := rowAt_halves (sm := same v.1) h2 hus uss
    rw [h1] at t1 t2 o4' ⊢
    rw [done_level hI hus uss o4' t1 t2]
    have ev : v = ((L.at n.nm).steps, v.2) := by rw [← h1]
    rw [← ev, ← h1]
    intro q
    obtain ⟨q1, q2, q3⟩ := srt_append.mp q
    apply i5
    have e : srt n.up (callN L (k + 1 + p.length) ((L.at n.nm).call s) (expand (halfW v s) (flipIf (trn v.1 s) us))) := by cases s <;> assumption
    rw [h3, callN_srt, expand_flipIf _ _ _ (by rw [halfW_len, length_flipIf, hus])] at e
    have eu : flipIf c.2 (flipIf (trn v.1 s) us) = z := by
      show flipIf c.2 (flipIf (trn v.1 s) (flipIf (c.2 != trn v.1 s) z)) = z
      rw [flipIf_flipIf, flipIf_flipIf]
      cases c.2 <;> cases trn v.1 s <;> rfl
    rw [eu] at e
    rw [i1]
    exact e
end K6
set_option linter.all false
namespace K6

/-! ### signs without repeats -/
def dd {α : Type} [DecidableEq α] : List α → List α
  | a :: b :: l => if a = b then dd (b :: l) else a :: dd (b :: l)
  | l => l
section
variable {α : Type} [DecidableEq α]
theorem dd_head (a : α) : ∀ l : List α, ∃ t, dd (a :: l) = a :: t
  | [] => ⟨[], rfl⟩
  | b :: l => by
    by_cases h : a = b
    · subst h
      rw [dd, if_pos rfl]
      exact dd_head a l
    · rw [dd, if_neg h]
      exact ⟨_, rfl⟩
theorem mem_dd {x : α} : ∀ {l : List α}, x ∈ dd l ↔ x ∈ l
  | [] => Iff.rfl
  | [a] => Iff.rfl
  | a :: b :: l => by
    have ih := mem_dd (x := x) (l := b :: l)
    rw [dd]
    by_cases h : a = b
    · rw [if_pos h, ih]
      subst h
      simp
    · rw [if_neg h, List.mem_cons, ih, List.mem_cons (b := a)]
/-- pieces with the same sign side by side are one -/
theorem dd_merge : ∀ (w : List α) (sz : List Nat) (N : Nat), w.length = sz.length → (∀ n ∈ sz, N ≤ n) → ∃ S, S.length = (dd w).length ∧ (∀ n ∈ S, N ≤ n) ∧ expand w sz = expand (dd w) S
  | [], sz, N, h, _ => ⟨[], by simp [dd], by simp, by simp [expand, dd]⟩
  | [a], sz, N, h, p => ⟨sz, by simp [dd]; simpa using h.symm, p, rfl⟩
  | a :: b :: l, [], N, h, _ => by simp at h
  | a :: b :: l, n :: sz, N, h, p => by
    have h' : (b :: l).length = sz.length := by simpa using h
    obtain ⟨S, h1, h2, h3⟩ := dd_merge (b :: l) sz N h' fun m hm => p m (List.mem_cons_of_mem _ hm)
    have hn := p n List.mem_cons_self
    by_cases e : a = b
    · subst e
      obtain ⟨t, ht⟩ := dd_head a l
      cases S with
      | nil => rw [ht] at h1; simp at h1
      | cons s S =>
        refine ⟨(n + s) :: S, ?_, ?_, ?_⟩
        · rw [dd, if_pos rfl]; exact h1
        · intro m hm
          rcases List.mem_cons.mp hm with q | q
          · omega
          · exact h2 m (List.mem_cons_of_mem _ q)
        · rw [dd, if_pos rfl, expand, h3, ht, expand, expand, rep_add, List.append_assoc]
    · refine ⟨n :: S, ?_, ?_, ?_⟩
      · rw [dd, if_neg e]; simp [h1]
      · intro m hm
        rcases List.mem_cons.mp hm with q | q
        · omega
        · exact h2 m q
      · rw [dd, if_neg e, expand, h3, expand]
theorem dd_cut : ∀ (w : List α) (S : List Nat), S.length = (dd w).length → (∀ n ∈ S, w.length ≤ n) → ∃ sz, sz.length = w.length ∧ Pos sz ∧ expand w sz = expand (dd w) S
  | [], S, h, _ => ⟨[], rfl, fun n hn => by simp at hn, by simp [expand, dd]⟩
  | [a], S, h, p => ⟨S, by simpa [dd] using h, fun n hn => by have := p n hn; simp at this; omega, rfl⟩
  | a :: b :: l, S, h, p => by
    by_cases e : a = b
    · subst e
      rw [dd, if_pos rfl] at h ⊢
      obtain ⟨t, ht⟩ := dd_head a l
      cases S with
      | nil => rw [ht] at h; simp at h
      | cons s S =>
        have hs := p s List.mem_cons_self
        simp at hs
        obtain ⟨sz, z1, z2, z3⟩ := dd_cut (a :: l) ((s - 1) :: S) (by simpa using h) (by
          intro m hm
          rcases List.mem_cons.mp hm with q | q
          · simp; omega
          · have := p m (List.mem_cons_of_mem _ q)
            simp at this ⊢
            omega)
        refine ⟨1 :: sz, by simp at z1 ⊢; omega, ?_, ?_⟩
        · intro m hm
          rcases List.mem_cons.mp hm with q | q
          · omega
          · exact z2 m q
        · rw [expand, z3, ht, expand, expand, ← List.append_assoc, ← rep_add]
          have : 1 + (s - 1) = s := by omega
          rw [this]
    · rw [dd, if_neg e] at h ⊢
      cases S with
      | nil => simp at h
      | cons s S =>
        have hs := p s List.mem_cons_self
        simp at hs
        obtain ⟨sz, z1, z2, z3⟩ := dd_cut (b :: l) S (by simpa using h) (by
          intro m hm
          have := p m (List.mem_cons_of_mem _ hm)
          simp at this ⊢
          omega)
        refine ⟨s :: sz, by simp at z1 ⊢; omega, ?_, by rw [expand, z3, expand]⟩
        intro m hm
        rcases List.mem_cons.mp hm with q | q
        · omega
        · exact z2 m q
theorem dd_rep {a : α} {l : List α} : ∀ n, 0 < n → dd (List.replicate n a ++ l) = dd (a :: l)
  | 0, h => by omega
  | 1, _ => rfl
  | n + 2, _ => by
    have ih := dd_rep (a := a) (l := l) (n + 1) (by omega)
    rw [List.replicate_succ, List.replicate_succ, List.cons_append, List.cons_append, dd, if_pos rfl, ← List.cons_append, ← List.replicate_succ]
    exact ih
theorem dd_cons {a : α} {l l' : List α} (h : dd l = dd l') : dd (a :: l) = dd (a :: l') := by
  cases l with
  | nil =>
    cases l' with
    | nil => rfl
    | cons b l' =>
      obtain ⟨t, ht⟩ := dd_head b l'
      rw [ht] at h
      simp [dd] at h
  | cons b l =>
    obtain ⟨t, ht⟩ := dd_head b l
    cases l' with
    | nil => rw [ht] at h; simp [dd] at h
    | cons c l' =>
      obtain ⟨t', ht'⟩ := dd_head c l'
      have hbc : b = c := by rw [ht, ht'] at h; simp at h; exact h.1
      subst hbc
      rw [dd, dd, h]
theorem dd_expand : ∀ {w : List α} {ls : List Nat}, w.length = ls.length → Pos ls → dd (expand w ls) = dd w
  | [], [], _, _ => rfl
  | [], _ :: _, h, _ => by simp at h
  | _ :: _, [], h, _ => by simp at h
  | a :: w, n :: ls, h, p => by
    have h' : w.length = ls.length := by simpa using h
    rw [expand, dd_rep n p.head]
    exact dd_cons (dd_expand h' p.tail)
theorem dd_idem : ∀ l : List α, dd (dd l) = dd l
  | [] => rfl
  | [a] => rfl
  | a :: b :: l => by
    rw [dd]
    by_cases h : a = b
    · rw [if_pos h]; exact dd_idem (b :: l)
    · rw [if_neg h]
      obtain ⟨t, ht⟩ := dd_head b l
      have ih := dd_idem (b :: l)
      rw [ht] at ih ⊢
      rw [dd, if_neg h, ih]
theorem dd_map {β : Type} [DecidableEq β] (f : α → β) : ∀ l : List α, dd (l.map f) = dd ((dd l).map f)
  | [] => rfl
  | [a] => rfl
  | a :: b :: l => by
    have ih := dd_map f (b :: l)
    rw [dd]
    by_cases h : a = b
    · subst h
      rw [if_pos rfl, ← ih, List.map_cons, List.map_cons, dd, if_pos rfl]
    · rw [if_neg h, List.map_cons, List.map_cons]
      exact dd_cons (by rw [← ih]; rfl)
theorem dd_snoc {b : α} : ∀ {l l' : List α}, dd l = dd l' → dd (l ++ [b]) = dd (l' ++ [b]) := by
  have key : ∀ l : List α, dd (l ++ [b]) = dd (dd l ++ [b]) := by
    intro l
    induction l with
    | nil => rfl
    | cons a l ih =>
      cases l with
      | nil => rfl
      | cons c l =>
        rw [dd]
        by_cases h : a = c
        · subst h
          rw [if_pos rfl, ← ih, List.cons_append, List.cons_append, dd, if_pos rfl]
        · rw [if_neg h]
          exact dd_cons ih
  intro l l' h
  rw [key l, key l', h]
theorem dd_rev_cons {a b : α} : ∀ l : List α, dd (l ++ [a, b]) = if a = b then dd (l ++ [b]) else dd (l ++ [a]) ++ [b]
  | [] => by
    by_cases h : a = b
    · simp [dd, h]
    · simp [dd, h]
  | c :: l => by
    have ih := dd_rev_cons (a := a) (b := b) l
    by_cases h : a = b
    · rw [if_pos h] at ih ⊢
      exact dd_cons ih
    · rw [if_neg h] at ih ⊢
      cases l with
      | nil =>
        by_cases q : c = a
        · subst q; simp [dd, h]
        · simp [dd, h, q]
      | cons d l =>
        simp only [List.cons_append] at ih ⊢
        rw [dd, ih, dd]
        by_cases q : c = d
        · rw [if_pos q, if_pos q]
        · rw [if_neg q, if_neg q]; rfl
theorem dd_reverse : ∀ l : List α, dd l.reverse = (dd l).reverse
  | [] => rfl
  | [a] => rfl
  | a :: b :: l => by
    have ih := dd_reverse (b :: l)
    have e : (a :: b :: l).reverse = l.reverse ++ [b, a] := by simp
    have e2 : (b :: l).reverse = l.reverse ++ [b] := by simp
    rw [e, dd_rev_cons, dd]
    by_cases h : b = a
    · subst h
      rw [if_pos rfl, if_pos rfl, ← ih, e2]
    · rw [if_neg h, if_neg (Ne.symm h), ← e2, ih, List.reverse_cons]
theorem dd_flip {t : Bool} {l : List α} : dd (flipIf t l) = flipIf t (dd l) := by
  cases t
  · rfl
  · exact dd_reverse l
end
theorem srt_dd {up : Bool} : ∀ {l : List Int}, srt up l ↔ srt up (dd l)
  | [] => Iff.rfl
  | [a] => Iff.rfl
  | a :: b :: l => by
    have ih := srt_dd (up := up) (l := b :: l)
    rw [dd]
    have e : ∀ l' : List Int, a :: l' = [a] ++ l' := fun _ => rfl
    have s : srt up [a] := srt_short (by simp)
    by_cases h : a = b
    · subst h
      rw [if_pos rfl, ← ih, e (a :: l), srt_append]
      constructor
      · intro q; exact q.2.1
      · intro q
        refine ⟨s, q, ?_⟩
        intro x hx y hy
        simp at hx
        subst hx
        have e2 : x :: l = [x] ++ l := rfl
        rw [e2, srt_append] at q
        rcases List.mem_cons.mp hy with z | z
        · subst z; unfold leB; cases up <;> simp
        · exact q.2.2 x (by simp) y z
    · rw [if_neg h, e (b :: l), e (dd (b :: l)), srt_append, srt_append, ← ih]
      simp only [mem_dd]

/-! ### levels of words alike -/
theorem sumAt_ge {N i : Nat} : ∀ {l ls : List Nat}, l.length = ls.length → (∀ n ∈ ls, N ≤ n) → i ∈ l → N ≤ sumAt i l ls
  | [], _, _, _, h => by simp at h
  | _ :: _, [], h, _, _ => by simp at h
  | j :: l, n :: ls, h, p, hi => by
    have h' : l.length = ls.length := by simpa using h
    have hn := p n List.mem_cons_self
    by_cases e : j = i
    · simp [sumAt, e]; omega
    · have : i ∈ l := by
        rcases List.mem_cons.mp hi with q | q
        · exact absurd q.symm e
        · exact q
      have := sumAt_ge h' (fun m hm => p m (List.mem_cons_of_mem _ hm)) this
      simp [sumAt, e]; omega
theorem joinS_ge {N : Nat} {win : Bool} {a b : List Nat} (ha : ∀ n ∈ a, N ≤ n) (hb : ∀ n ∈ b, N ≤ n) (h0 : a ≠ []) : ∀ n ∈ joinS win a b, N ≤ n := by
  intro n hn
  cases win with
  | false =>
    rcases List.mem_append.mp hn with q | q
    · exact ha n q
    · exact hb n q
  | true =>
    obtain ⟨a', x, rfl⟩ : ∃ a' x, a = a' ++ [x] := ⟨a.dropLast, a.getLast h0, (List.dropLast_concat_getLast h0).symm⟩
    have hx := ha x (by simp)
    simp only [joinS, if_true, List.dropLast_concat, List.mem_append, List.mem_cons] at hn
    rcases hn with q | q | q
    · exact ha n (by simp [q])
    · simp at q; omega
    · exact hb n (List.mem_of_mem_tail q)
theorem pairs_eq : ∀ {A B : List (Int × Int)}, A.map Prod.fst = B.map Prod.fst → A.map Prod.snd = B.map Prod.snd → A = B
  | [], [], _, _ => rfl
  | [], _ :: _, h, _ => by simp at h
  | _ :: _, [], h, _ => by simp at h
  | a :: A, b :: B, h1, h2 => by
    simp only [List.map_cons, List.cons.injEq] at h1 h2
    rw [pairs_eq h1.2 h2.2, Prod.ext h1.1 h2.1]
theorem flipIf_inj {α : Type} {t : Bool} {a b : List α} (h : flipIf t a = flipIf t b) : a = b := by
  have := congrArg (flipIf t) h
  rw [flipIf_flipIf, flipIf_flipIf] at this
  cases t <;> simpa [flipIf] using this
theorem lev_alike {sm : Bool} {w w' : List Int} (h : dd w = dd w') {l : Lev} (hl : LevOf w l) : ∃ l', LevOf w' l' ∧ dd (cols sm l) = dd (cols sm l') := by
  let N := w'.length + 1
  let ls := List.replicate l.way.length N
  have hll : ls.length = l.way.length := by simp [ls]
  have hN : ∀ n ∈ ls, N ≤ n := fun n hn => by rw [(List.mem_replicate.mp hn).2]; exact Nat.le_refl _
  have pls : Pos ls := fun n hn => by have := hN n hn; omega
  obtain ⟨o1, o2, o3, o4⟩ := rowAt_ok (sm := sm) hl hll pls
  have hge : ∀ n ∈ (rowAt sm l ls).2, N ≤ n := by
    refine joinS_ge (fun n hn => ?_) (fun n hn => ?_) ?_
    · obtain ⟨i, hi, rfl⟩ := List.mem_map.mp hn
      exact sumAt_ge (by simpa using hll.symm) hN (hl.2.fst.all i (Nat.zero_le _) (List.mem_range.mp hi))
    · obtain ⟨i, hi, rfl⟩ := List.mem_map.mp (mem_flipIf.mp hn)
      exact sumAt_ge (by simpa using hll.symm) hN (hl.2.snd.all i (Nat.zero_le _) (List.mem_range.mp hi))
    · intro q
      have := congrArg List.length q
      rw [tal_length] at this
      have h2 := hl.1.pos.1
      simp at this
      rw [this] at h2
      simp at h2
  obtain ⟨S, s1, s2, s3⟩ := dd_merge w (rowAt sm l ls).2 N o2.symm hge
  rw [h] at s1 s3
  obtain ⟨sz, z1, z2, z3⟩ := dd_cut w' S s1 fun n hn => by have := s2 n hn; omega
  have hrow : (rowAt sm l ls).1 = expand w' sz := by rw [o1, s3, ← z3]
  have hsum : sz.sum = ls.sum + ls.sum := by rw [← expand_length w' sz z1.symm, ← hrow, o4]
  have h0 : 0 < ls.sum := by
    have := len_le_sum pls
    have := hl.len.1
    omega
  obtain ⟨l', ls', c1, c2, c3, c4, c5, c6⟩ := row_lies sm z1.symm z2 hsum h0
  refine ⟨l', c1, ?_⟩
  have e : (expand ((cols sm l).map Prod.fst) ls).length = ls.sum := by rw [expand_length _ _ (by simp [cols, hll])]
  have r1 : (rowAt sm l ls).1.take ls.sum = expand ((cols sm l).map Prod.fst) ls := by
    show (_ ++ _ : List Int).take _ = _
    rw [List.take_append_of_le_length (by omega), List.take_of_length_le (by omega)]
  have r2 : (rowAt sm l ls).1.drop ls.sum = flipIf (!sm) (expand ((cols sm l).map Prod.snd) ls) := by
    show (_ ++ _ : List Int).drop _ = _
    rw [List.drop_append_of_le_length (by omega), List.drop_eq_nil_of_le (by omega), List.nil_append]
  rw [← hrow, r1] at c5
  rw [← hrow, r2] at c6
  have c6' := flipIf_inj c6
  rw [expand_map, expand_map] at c5 c6'
  have ee := pairs_eq c5 c6'
  have d1 := dd_expand (w := cols sm l) (ls := ls) (by simp [cols, hll]) pls
  have d2 := dd_expand (w := cols sm l') (ls := ls') (by simp [cols, c2]) c3
  rw [← d1, ← d2, ee]

/-! ### nodes alike -/
def cl (n : Node) : Nat × Bool × List Int := (n.nm, n.up, dd n.w)
theorem fin_alike {st : List Stp} {l l' : Lev} (h : dd (cols (same st) l) = dd (cols (same st) l')) : dd (finCols (st, l)) = dd (finCols (st, l')) := by
  show dd ((cols (same st) l).map (colF st)) = dd ((cols (same st) l').map (colF st))
  rw [dd_map, h, ← dd_map]
theorem half_alike {st : List Stp} {l l' : Lev} (h : dd (cols (same st) l) = dd (cols (same st) l')) (s : Bool) : dd (halfW (st, l) s) = dd (halfW (st, l') s) := by
  have e := fin_alike h
  show dd (flipIf (trn st s) _) = dd (flipIf (trn st s) _)
  rw [dd_flip, dd_flip, dd_map, e, ← dd_map]
theorem bad_alike {st : List Stp} {l l' : Lev} (h : dd (cols (same st) l) = dd (cols (same st) l')) {up : Bool} (b : isBad (st, l) up) : isBad (st, l') up := by
  have e := fin_alike h
  have m : ∀ (x : Int) (s : Bool), x ∈ (finCols (st, l)).map (prj s) → x ∈ (finCols (st, l')).map (prj s) := fun x s hx => by
    obtain ⟨c, hc, rfl⟩ := List.mem_map.mp hx
    refine List.mem_map.mpr ⟨c, ?_, rfl⟩
    rw [← mem_dd, ← e, mem_dd]
    exact hc
  exact ⟨m _ _ b.1, m _ _ b.2⟩
def BadN (L : Looms) (n : Node) : Prop := ∃ r, RowOf L n r ∧ r.node = none
def StepN (L : Looms) (n m : Node) : Prop := ∃ r, RowOf L n r ∧ r.node = some m
theorem badN_alike {L : Looms} {n n' : Node} (h : cl n = cl n') (b : BadN L n) : BadN L n' := by
  obtain ⟨nm, up, w⟩ := n
  obtain ⟨nm', up', w'⟩ := n'
  simp only [cl, Prod.mk.injEq] at h
  obtain ⟨rfl, rfl, h⟩ := h
  obtain ⟨r, ⟨h1, h2, h3⟩, h4⟩ := b
  obtain ⟨⟨st, l⟩, sd, nd, tn⟩ := r
  simp only at h1 h2 h3 h4
  subst h1
  obtain ⟨l', c1, c2⟩ := lev_alike (sm := same (L.at nm).steps) h h2
  rcases h3 with ⟨_, h3⟩ | ⟨s, c, _, h3⟩
  · refine ⟨⟨((L.at nm).steps, l'), none, none, false⟩, ⟨rfl, c1, .inl ⟨rfl, ?_⟩⟩, rfl⟩
    rcases h3 with h3 | ⟨s, q1, q2⟩
    · exact .inl (bad_alike c2 h3)
    · refine .inr ⟨s, q1, fun q => q2 ?_⟩
      have q' : srt up (halfW ((L.at nm).steps, l') s) := q
      show srt up (halfW ((L.at nm).steps, l) s)
      rw [srt_dd, half_alike c2 s, ← srt_dd]
      exact q'
  · rw [PRow.mk.injEq] at h3
    rw [h3.2.2.1] at h4
    cases h4
theorem stepN_alike {L : Looms} {n n' m : Node} (h : cl n = cl n') (b : StepN L n m) : ∃ m', StepN L n' m' ∧ cl m = cl m' := by
  obtain ⟨nm, up, w⟩ := n
  obtain ⟨nm', up', w'⟩ := n'
  simp only [cl, Prod.mk.injEq] at h
  obtain ⟨rfl, rfl, h⟩ := h
  obtain ⟨r, ⟨h1, h2, h3⟩, h4⟩ := b
  obtain ⟨⟨st, l⟩, sd, nd, tn⟩ := r
  simp only at h1 h2 h3 h4
  subst h1
  obtain ⟨l', c1, c2⟩ := lev_alike (sm := same (L.at nm).steps) h h2
  rcases h3 with ⟨h3, _⟩ | ⟨s, c, hc, h3⟩
  · rw [PRow.mk.injEq] at h3
    rw [h3.2.2.1] at h4
    cases h4
  · rw [PRow.mk.injEq] at h3
    rw [h3.2.2.1] at h4
    cases h4
    refine ⟨child c up (halfW ((L.at nm).steps, l') s), ⟨⟨((L.at nm).steps, l'), some s, some (child c up (halfW ((L.at nm).steps, l') s)), c.2⟩, ⟨rfl, c1, .inr ⟨s, c, hc, rfl⟩⟩, rfl⟩, ?_⟩
    simp only [cl, child, Prod.mk.injEq, true_and]
    rw [dd_flip, dd_flip, half_alike c2 s]
def RB (L : Looms) : Nat → Node → Prop
  | 0, n => BadN L n
  | d + 1, n => ∃ m, StepN L n m ∧ RB L d m
theorem rb_alike {L : Looms} : ∀ {d : Nat} {n n' : Node}, cl n = cl n' → RB L d n → RB L d n'
  | 0, _, _, h, b => badN_alike h b
  | d + 1, n, n', h, ⟨m, h1, h2⟩ => by
    obtain ⟨m', q1, q2⟩ := stepN_alike h h1
    exact ⟨m', q1, rb_alike q2 h2⟩
theorem rb_path {L : Looms} : ∀ {d : Nat} {n : Node}, RB L d n → ∃ p e r, PathOk L n p e ∧ p.length = d ∧ RowOf L e r ∧ r.node = none
  | 0, n, ⟨r, h1, h2⟩ => ⟨[], n, r, .nil, rfl, h1, h2⟩
  | d + 1, n, ⟨m, ⟨r, h1, h2⟩, h3⟩ => by
    obtain ⟨p, e, r', q1, q2, q3, q4⟩ := rb_path h3
    obtain ⟨a1, a2, a3⟩ := h1
    rcases a3 with ⟨a3, _⟩ | ⟨s, c, hc, a3⟩
    · rw [a3] at h2; cases h2
    · have e1 : m = child c n.up (halfW r.lv s) := by rw [a3] at h2; exact (Option.some.inj h2).symm
      subst e1
      exact ⟨(r.lv, s, c.2) :: p, e, r', .cons a1 a2 hc q1, by simp [q2], q3, q4⟩
/-- room for so many pieces -/
def room (n half : Nat) : List Nat := List.replicate (n - 1) 1 ++ [half - n + 1]
theorem room_ok {n half : Nat} (h0 : 0 < n) (h : n ≤ half) : (room n half).length = n ∧ Pos (room n half) ∧ (room n half).sum = half := by
  refine ⟨by simp [room]; omega, fun k hk => ?_, ?_⟩
  · rcases List.mem_append.mp hk with q | q
    · rw [(List.mem_replicate.mp q).2]; decide
    · simp at q; omega
  · simp [room, List.sum_replicate_nat]; omega
theorem rb_mixed {L : Looms} (hI : InsideAll L) {d : Nat} {n : Node} (hw : Sign n.w) (h : RB L d n) : 0 ∈ n.w ∧ 1 ∈ n.w := by
  obtain ⟨p, e, r, h1, h2, h3, h4⟩ := rb_path h
  have hlen := h3.2.1.len
  obtain ⟨k, hk⟩ : ∃ k, r.lv.2.way.length ≤ 2 ^ k := ⟨r.lv.2.way.length, Nat.le_of_lt Nat.lt_two_pow_self⟩
  obtain ⟨o1, o2, o3⟩ := room_ok hlen.1 hk
  obtain ⟨b1, b2, b3, b4, b5⟩ := built_ok hI h1 h3 h4 o1 o2 o3 hw
  have hp := doneN_perm (L := L) (nm := n.nm) b4
  have hm : ∀ x, x ∈ doneN L (k + 1 + p.length) n.nm (builtM p r.lv (room r.lv.2.way.length (2 ^ k))).1 ↔ x ∈ n.w := fun x => by
    rw [hp.mem_iff, b1, mem_expand b2.symm b3]
  have const : ∀ a : Int, (∀ x ∈ n.w, x = a) → False := fun a ha => b5 (by
    have e : ∀ x ∈ doneN L (k + 1 + p.length) n.nm (builtM p r.lv (room r.lv.2.way.length (2 ^ k))).1, x = a := fun x hx => ha x ((hm x).mp hx)
    rw [List.eq_replicate_of_mem e]
    cases n.up <;> simp [srt, List.pairwise_replicate])
  constructor
  · refine Classical.byContradiction fun q => const 1 fun x hx => ?_
    rcases hw x hx with e | e
    · exact absurd (e ▸ hx) q
    · exact e
  · refine Classical.byContradiction fun q => const 0 fun x hx => ?_
    rcases hw x hx with e | e
    · exact e
    · exact absurd (e ▸ hx) q

/-! ### what a loom's columns do -/
theorem colF_kind (st : List Stp) : (∀ c, colF st c = c) ∨ (∀ c, colF st c = c.swap) ∨ (∀ c, colF st c = (min c.1 c.2, max c.1 c.2)) ∨ (∀ c, colF st c = (max c.1 c.2, min c.1 c.2)) := by
  induction st with
  | nil => exact .inl fun _ => rfl
  | cons s st ih =>
    have e : ∀ c, colF (s :: st) c = colF st (match s with | .swap | .flip .all => c.swap | .cmp _ up => ordP up c.1 c.2 | _ => c) := fun c => rfl
    have sw : (∀ c, colF (s :: st) c = colF st c.swap) → (∀ c, colF (s :: st) c = c) ∨ (∀ c, colF (s :: st) c = c.swap) ∨ (∀ c, colF (s :: st) c = (min c.1 c.2, max c.1 c.2)) ∨ (∀ c, colF (s :: st) c = (max c.1 c.2, min c.1 c.2)) := fun e => by
      rcases ih with h | h | h | h
      · exact .inr (.inl fun c => by rw [e, h])
      · exact .inl fun c => by rw [e, h]; rfl
      · exact .inr (.inr (.inl fun c => by rw [e, h]; show (min c.2 c.1, max c.2 c.1) = _; rw [Int.min_comm, Int.max_comm]))
      · exact .inr (.inr (.inr fun c => by rw [e, h]; show (max c.2 c.1, min c.2 c.1) = _; rw [Int.min_comm, Int.max_comm]))
    have mm : ∀ a b : Int, min (min a b) (max a b) = min a b ∧ max (min a b) (max a b) = max a b ∧ min (max a b) (min a b) = min a b ∧ max (max a b) (min a b) = max a b := fun a b => by omega
    cases s with
    | swap => exact sw e
    | cmp x up =>
      cases up with
      | true =>
        rcases ih with h | h | h | h
        · exact .inr (.inr (.inl fun c => by rw [e, h]; rfl))
        · exact .inr (.inr (.inr fun c => by rw [e, h]; rfl))
        · exact .inr (.inr (.inl fun c => by rw [e, h]; show (min (min c.1 c.2) (max c.1 c.2), max (min c.1 c.2) (max c.1 c.2)) = _; rw [(mm c.1 c.2).1, (mm c.1 c.2).2.1]))
        · exact .inr (.inr (.inr fun c => by rw [e, h]; show (max (min c.1 c.2) (max c.1 c.2), min (min c.1 c.2) (max c.1 c.2)) = _; rw [(mm c.1 c.2).1, (mm c.1 c.2).2.1]))
      | false =>
        rcases ih with h | h | h | h
        · exact .inr (.inr (.inr fun c => by rw [e, h]; rfl))
        · exact .inr (.inr (.inl fun c => by rw [e, h]; rfl))
        · exact .inr (.inr (.inl fun c => by rw [e, h]; show (min (max c.1 c.2) (min c.1 c.2), max (max c.1 c.2) (min c.1 c.2)) = _; rw [(mm c.1 c.2).2.2.1, (mm c.1 c.2).2.2.2]))
        · exact .inr (.inr (.inr fun c => by rw [e, h]; show (max (max c.1 c.2) (min c.1 c.2), min (max c.1 c.2) (min c.1 c.2)) = _; rw [(mm c.1 c.2).2.2.1, (mm c.1 c.2).2.2.2]))
    | flip z =>
      cases z with
      | all => exact sw e
      | left => exact ih
      | right => exact ih
      | both => exact ih

/-- there is a way -/
theorem way_ex (m n : Nat) : ∀ (f i j : Nat), (m - i) + (n - j) ≤ f → i < m → j < n → ∃ w, WayFrom m n i j w
  | 0, i, j, h, hi, hj => by omega
  | f + 1, i, j, h, hi, hj => by
    by_cases a : i + 1 < m
    · obtain ⟨w, hw⟩ := way_ex m n f (i + 1) j (by omega) a hj
      exact ⟨_, .rt a hj hw⟩
    · by_cases b : j + 1 < n
      · obtain ⟨w, hw⟩ := way_ex m n f i (j + 1) (by omega) hi b
        exact ⟨_, .dn hi b hw⟩
      · exact ⟨_, .last (by omega) (by omega)⟩
theorem cols_has {sm : Bool} {l : Lev} (h : WayFrom l.lw.length l.rw.length 0 0 l.way) : (∀ x ∈ l.lw, x ∈ (cols sm l).map Prod.fst) ∧ (∀ x ∈ l.rw, x ∈ (cols sm l).map Prod.snd) := by
  constructor
  · intro x hx
    obtain ⟨i, hi, e⟩ := List.mem_iff_getElem.mp hx
    have := h.fst.all i (Nat.zero_le _) hi
    obtain ⟨p, hp, rfl⟩ := List.mem_map.mp this
    simp only [cols, List.map_map, List.mem_map]
    exact ⟨p, hp, by simp [← e, List.getD, hi]⟩
  · intro x hx
    have hx' : x ∈ flipIf (!sm) l.rw := mem_flipIf.mpr hx
    obtain ⟨i, hi, e⟩ := List.mem_iff_getElem.mp hx'
    have hi' : i < l.rw.length := by rw [length_flipIf] at hi; exact hi
    have := h.snd.all i (Nat.zero_le _) hi'
    obtain ⟨p, hp, rfl⟩ := List.mem_map.mp this
    simp only [cols, List.map_map, List.mem_map]
    exact ⟨p, hp, by simp [← e, List.getD, hi]⟩
/-- a cut between two pieces -/
theorem cut_lev {w : List Int} {p : Nat} (h1 : 1 ≤ p) (h2 : p < w.length) : ∃ l, LevOf w l ∧ l.lw = w.take p ∧ l.rw = w.drop p := by
  have a : 0 < (w.take p).length := by simp; omega
  have b : 0 < (w.drop p).length := by simp; omega
  obtain ⟨way, hw⟩ := way_ex (w.take p).length (w.drop p).length _ 0 0 (Nat.le_refl _) a b
  exact ⟨⟨w.take p, w.drop p, false, way⟩, ⟨.inr ⟨rfl, p, h1, h2, rfl, rfl⟩, hw⟩, rfl, rfl⟩
theorem inv_of {w : List Int} (hw : Sign w) {up : Bool} (h : ¬ srt up w) : ∃ p, 1 ≤ p ∧ p < w.length ∧ (if up then 1 else 0) ∈ w.take p ∧ (if up then 0 else 1) ∈ w.drop p := by
  induction w with
  | nil => exact absurd (srt_short (by simp)) h
  | cons a w ih =>
    have hw' : Sign w := fun x hx => hw x (List.mem_cons_of_mem _ hx)
    have e : a :: w = [a] ++ w := rfl
    by_cases q : srt up w
    · have : ¬ ∀ x ∈ [a], ∀ y ∈ w, leB up x y := fun z => h (by rw [e, srt_append]; exact ⟨srt_short (by simp), q, z⟩)
      have ha : Sign [a] := fun x hx => by simp at hx; rw [hx]; exact hw a List.mem_cons_self
      rw [cross_iff ha hw'] at this
      refine ⟨1, Nat.le_refl _, ?_, ?_, ?_⟩
      · cases up with
        | true => have := List.length_pos_of_mem (by simpa using this.2 : (0 : Int) ∈ w); simp; omega
        | false => have := List.length_pos_of_mem (by simpa using this.1 : (1 : Int) ∈ w); simp; omega
      · cases up <;> simp at this ⊢
        · exact this.2
        · exact this.1
      · cases up <;> simp at this ⊢
        · exact this.1
        · exact this.2
    · obtain ⟨p, p1, p2, p3, p4⟩ := ih hw' q
      exact ⟨p + 1, by omega, by simp; omega, by simp; exact .inr p3, by simpa using p4⟩
theorem badN_mk {L : Looms} {n : Node} {l : Lev} (hl : LevOf n.w l) (hb : isBad ((L.at n.nm).steps, l) n.up) : BadN L n :=
  ⟨⟨((L.at n.nm).steps, l), none, none, false⟩, ⟨rfl, hl, .inl ⟨rfl, .inl hb⟩⟩, rfl⟩
theorem map_prj {st : List Stp} {l : Lev} {g : Int × Int → Int × Int} (h : ∀ c, colF st c = g c) (s : Bool) : (finCols (st, l)).map (prj s) = (cols (same st) l).map fun c => prj s (g c) := by
  simp only [finCols, List.map_map]
  exact List.map_congr_left fun c _ => by simp [h]

abbrev words6 : List (List Int) := [[0, 1], [1, 0], [0, 1, 0], [1, 0, 1], [0, 1, 0, 1], [1, 0, 1, 0]]
theorem dd_words {w : List Int} (hw : Sign w) (h4 : w.length ≤ 4) (h0 : 0 ∈ w) (h1 : 1 ∈ w) : dd w ∈ words6 ∧ (srt true w → dd w = [0, 1]) ∧ (srt false w → dd w = [1, 0]) := by
  match w, h4 with
  | [], _ => simp at h0
  | [a], _ =>
    rcases hw a (by simp) with rfl | rfl
    · simp at h1
    · simp at h0
  | [a, b], _ =>
    rcases hw a (by simp) with rfl | rfl <;> rcases hw b (by simp) with rfl | rfl <;> first | (simp at h1; done) | (simp at h0; done) | decide
  | [a, b, c], _ =>
    rcases hw a (by simp) with rfl | rfl <;> rcases hw b (by simp) with rfl | rfl <;> rcases hw c (by simp) with rfl | rfl <;> first | (simp at h1; done) | (simp at h0; done) | decide
  | [a, b, c, d], _ =>
    rcases hw a (by simp) with rfl | rfl <;> rcases hw b (by simp) with rfl | rfl <;> rcases hw c (by simp) with rfl | rfl <;> rcases hw d (by simp) with rfl | rfl <;>
      first | (simp at h1; done) | (simp at h0; done) | decide
/-- a loom's nodes that are not bad at once: at most six, up to repeats -/
theorem six (L : Looms) (nm : Nat) : ∃ S : List (Bool × List Int), S.length ≤ 6 ∧ ∀ up w, Sign w → w.length ≤ 4 → 0 ∈ w → 1 ∈ w → ¬ BadN L ⟨nm, up, w⟩ → (up, dd w) ∈ S := by
  have any : ∀ {w : List Int}, 0 ∈ w → 1 ∈ w → ∃ l, LevOf w l ∧ ∀ sm x, x ∈ w → (x ∈ (cols sm l).map Prod.fst ∨ x ∈ (cols sm l).map Prod.snd) := by
    intro w h0 h1
    have h2 : 1 < w.length := by
      match w, h0, h1 with
      | [], h0, _ => simp at h0
      | [a], h0, h1 => simp at h0 h1; omega
      | _ :: _ :: _, _, _ => simp
    obtain ⟨l, hl, e1, e2⟩ := cut_lev (Nat.le_refl 1) h2
    refine ⟨l, hl, fun sm x hx => ?_⟩
    have hc := cols_has (sm := sm) hl.2
    have : x ∈ w.take 1 ++ w.drop 1 := by rw [List.take_append_drop]; exact hx
    rcases List.mem_append.mp this with q | q
    · exact .inl (hc.1 x (by rw [e1]; exact q))
    · exact .inr (hc.2 x (by rw [e2]; exact q))
  have cut : ∀ {w : List Int} {up : Bool}, Sign w → ¬ srt up w → ∃ l, LevOf w l ∧ ∀ sm, (if up then 1 else 0) ∈ (cols sm l).map Prod.fst ∧ (if up then 0 else 1) ∈ (cols sm l).map Prod.snd := by
    intro w up hw h
    obtain ⟨p, p1, p2, p3, p4⟩ := inv_of hw h
    obtain ⟨l, hl, e1, e2⟩ := cut_lev p1 p2
    exact ⟨l, hl, fun sm => ⟨(cols_has (sm := sm) hl.2).1 _ (by rw [e1]; exact p3), (cols_has (sm := sm) hl.2).2 _ (by rw [e2]; exact p4)⟩⟩
  rcases colF_kind (L.at nm).steps with h | h | h | h
  · refine ⟨[(true, [0, 1]), (false, [1, 0])], by simp, fun up w hw h4 h0 h1 hb => ?_⟩
    have key : srt up w := Classical.byContradiction fun q => by
      obtain ⟨l, hl, c⟩ := cut hw q
      refine hb (badN_mk hl ⟨?_, ?_⟩)
      · rw [map_prj h]; have := c (same (L.at nm).steps); cases up
        · exact this.2
        · exact this.1
      · rw [map_prj h]; have := c (same (L.at nm).steps); cases up
        · exact this.1
        · exact this.2
    have := dd_words hw h4 h0 h1
    cases up
    · rw [this.2.2 key]; simp
    · rw [this.2.1 key]; simp
  · refine ⟨[(true, [1, 0]), (false, [0, 1])], by simp, fun up w hw h4 h0 h1 hb => ?_⟩
    have key : srt (!up) w := Classical.byContradiction fun q => by
      obtain ⟨l, hl, c⟩ := cut hw q
      refine hb (badN_mk hl ⟨?_, ?_⟩)
      · rw [map_prj h]; have := c (same (L.at nm).steps); cases up
        · exact this.1
        · exact this.2
      · rw [map_prj h]; have := c (same (L.at nm).steps); cases up
        · exact this.2
        · exact this.1
    have := dd_words hw h4 h0 h1
    cases up
    · rw [this.2.1 key]; simp
    · rw [this.2.2 key]; simp
  · refine ⟨words6.map fun x => (true, x), by simp, fun up w hw h4 h0 h1 hb => ?_⟩
    cases up with
    | true => exact List.mem_map_of_mem (dd_words hw h4 h0 h1).1
    | false =>
      exfalso
      obtain ⟨l, hl, c⟩ := any h0 h1
      have sg := cols_sign (sm := same (L.at nm).steps) hw hl
      refine hb (badN_mk hl ⟨?_, ?_⟩)
      · rw [map_prj h]
        rcases c (same (L.at nm).steps) 1 h1 with q | q <;> obtain ⟨d, hd, e⟩ := List.mem_map.mp q <;> refine List.mem_map.mpr ⟨d, hd, ?_⟩ <;> have := sg d hd
        · show max d.1 d.2 = 1; omega
        · show max d.1 d.2 = 1; omega
      · rw [map_prj h]
        rcases c (same (L.at nm).steps) 0 h0 with q | q <;> obtain ⟨d, hd, e⟩ := List.mem_map.mp q <;> refine List.mem_map.mpr ⟨d, hd, ?_⟩ <;> have := sg d hd
        · show min d.1 d.2 = 0; omega
        · show min d.1 d.2 = 0; omega
  · refine ⟨words6.map fun x => (false, x), by simp, fun up w hw h4 h0 h1 hb => ?_⟩
    cases up with
    | false => exact List.mem_map_of_mem (dd_words hw h4 h0 h1).1
    | true =>
      exfalso
      obtain ⟨l, hl, c⟩ := any h0 h1
      have sg := cols_sign (sm := same (L.at nm).steps) hw hl
      refine hb (badN_mk hl ⟨?_, ?_⟩)
      · rw [map_prj h]
        rcases c (same (L.at nm).steps) 1 h1 with q | q <;> obtain ⟨d, hd, e⟩ := List.mem_map.mp q <;> refine List.mem_map.mpr ⟨d, hd, ?_⟩ <;> have := sg d hd
        · show max d.1 d.2 = 1; omega
        · show max d.1 d.2 = 1; omega
      · rw [map_prj h]
        rcases c (same (L.at nm).steps) 0 h0 with q | q <;> obtain ⟨d, hd, e⟩ := List.mem_map.mp q <;> refine List.mem_map.mpr ⟨d, hd, ?_⟩ <;> have := sg d hd
        · show min d.1 d.2 = 0; omega
        · show min d.1 d.2 = 0; omega

/-! ### the least path to a bad node is short -/
def WF (L : Looms) : Prop := ∀ n s c, (L.at n).call s = some c → c.1 < 3
def Good (n : Node) : Prop := n.nm < 3 ∧ Sign n.w ∧ n.w.length ≤ 4
theorem row_good {L : Looms} (hW : WF L) {n m : Node} (hn : Good n) {r : PRow} (h : RowOf L n r) (e : r.node = some m) : Good m ∧ r.lv.2.way.length ≤ 4 := by
  obtain ⟨h1, h2, h3⟩ := h
  have hl := h2.len
  have h4 := hn.2.2
  rcases h3 with ⟨h3, _⟩ | ⟨s, c, hc, h3⟩
  · rw [h3] at e; cases e
  · rw [h3] at e
    cases e
    refine ⟨⟨hW _ _ _ hc, fun x hx => halfW_sign hn.2.1 h2 s x (mem_flipIf.mp hx), ?_⟩, by omega⟩
    show (flipIf c.2 (halfW r.lv s)).length ≤ 4
    rw [length_flipIf, halfW_len]
    omega
theorem step_good {L : Looms} (hW : WF L) {n m : Node} (hn : Good n) (h : StepN L n m) : Good m := by
  obtain ⟨r, h1, h2⟩ := h
  exact (row_good hW hn h1 h2).1
theorem nodup_le {α : Type} [DecidableEq α] : ∀ (l S : List α), l.Nodup → (∀ x ∈ l, x ∈ S) → l.length ≤ S.length
  | [], _, _, _ => Nat.zero_le _
  | a :: l, S, hn, hs => by
    have ha := hs a List.mem_cons_self
    rw [List.nodup_cons] at hn
    have ih := nodup_le l (S.erase a) hn.2 fun x hx => by
      have hxa : x ≠ a := fun e => hn.1 (e ▸ hx)
      exact (List.mem_erase_of_ne hxa).mpr (hs x (List.mem_cons_of_mem _ hx))
    rw [List.length_erase_of_mem ha] at ih
    have := List.length_pos_of_mem ha
    simp; omega
def Min (L : Looms) (d : Nat) (n : Node) : Prop := RB L d n ∧ ∀ e, e < d → ¬ RB L e n
theorem min_ex {L : Looms} {n : Node} : ∀ d, RB L d n → ∃ e, e ≤ d ∧ Min L e n := by
  intro d
  induction d using Nat.strongRecOn with
  | ind d ih =>
    intro h
    by_cases q : ∃ e, e < d ∧ RB L e n
    · obtain ⟨e, he, h2⟩ := q
      obtain ⟨e', a, b⟩ := ih e he h2
      exact ⟨e', by omega, b⟩
    · exact ⟨d, Nat.le_refl _, h, fun e he h2 => q ⟨e, he, h2⟩⟩
theorem depth {L : Looms} (hI : InsideAll L) (hW : WF L) : ∃ SL : List (Nat × Bool × List Int), SL.length ≤ 18 ∧ ∀ d n, Good n → Min L d n →
    ∃ l : List (Nat × Bool × List Int), l.length = d ∧ l.Nodup ∧ ∀ c ∈ l, c ∈ SL ∧ ∃ m e, cl m = c ∧ 1 ≤ e ∧ e ≤ d ∧ Min L e m := by
  obtain ⟨S0, a0, b0⟩ := six L 0
  obtain ⟨S1, a1, b1⟩ := six L 1
  obtain ⟨S2, a2, b2⟩ := six L 2
  refine ⟨S0.map (fun x => (0, x)) ++ (S1.map (fun x => (1, x)) ++ S2.map (fun x => (2, x))), by simp; omega, fun d => ?_⟩
  induction d with
  | zero => intro n _ _; exact ⟨[], rfl, List.nodup_nil, by simp⟩
  | succ d ih =>
    intro n hn hm
    obtain ⟨m, h1, h2⟩ := hm.1
    have hm2 : Min L d m := ⟨h2, fun e he q => hm.2 (e + 1) (by omega) ⟨m, h1, q⟩⟩
    obtain ⟨l, l1, l2, l3⟩ := ih m (step_good hW hn h1) hm2
    have hb : ¬ BadN L n := hm.2 0 (by omega)
    have hmix := rb_mixed hI hn.2.1 hm.1
    refine ⟨cl n :: l, by simp [l1], ?_, ?_⟩
    · rw [List.nodup_cons]
      refine ⟨fun q => ?_, l2⟩
      obtain ⟨_, m', e, q1, q2, q3, q4⟩ := l3 _ q
      exact hm.2 e (by omega) (rb_alike q1 q4.1)
    · intro c hc
      rcases List.mem_cons.mp hc with q | q
      · subst q
        refine ⟨?_, n, d + 1, rfl, by omega, Nat.le_refl _, hm⟩
        obtain ⟨nm, up, w⟩ := n
        obtain ⟨g1, g2, g3⟩ := hn
        simp only [List.mem_append, List.mem_map, cl]
        have hnm : nm = 0 ∨ nm = 1 ∨ nm = 2 := by simp at g1; omega
        rcases hnm with rfl | rfl | rfl
        · exact .inl ⟨_, b0 up w g2 g3 hmix.1 hmix.2 hb, rfl⟩
        · exact .inr (.inl ⟨_, b1 up w g2 g3 hmix.1 hmix.2 hb, rfl⟩)
        · exact .inr (.inr ⟨_, b2 up w g2 g3 hmix.1 hmix.2 hb, rfl⟩)
      · obtain ⟨z, m', e, q1, q2, q3, q4⟩ := l3 c q
        exact ⟨z, m', e, q1, q2, by omega, q4⟩
theorem rb_short {L : Looms} (hI : InsideAll L) (hW : WF L) {n : Node} (hn : Good n) {d : Nat} (h : RB L d n) : ∃ e, e ≤ 18 ∧ RB L e n := by
  obtain ⟨e, _, hm⟩ := min_ex d h
  obtain ⟨SL, s1, s2⟩ := depth hI hW
  obtain ⟨l, l1, l2, l3⟩ := s2 e n hn hm
  have := nodup_le l SL l2 fun c hc => (l3 c hc).1
  exact ⟨e, by omega, hm.1⟩
theorem fails_rb {L : Looms} (hW : WF L) : ∀ {d : Nat} {n : Node}, Good n → RB L d n → Fails L (d + 3) n
  | 0, n, hn, ⟨r, h1, h2⟩ => ⟨r, h1, by have := h1.2.1.len; have := hn.2.2; show _ ≤ 2 ^ 2; omega, .inl h2⟩
  | d + 1, n, hn, ⟨m, ⟨r, h1, h2⟩, h3⟩ => by
    obtain ⟨g, g2⟩ := row_good hW hn h1 h2
    refine ⟨r, h1, ?_, .inr ⟨m, h2, fails_rb hW g h3⟩⟩
    have e : 2 ^ (d + 3) = 2 ^ d * 8 := by rw [Nat.pow_add]
    have := Nat.pow_pos (n := d) (show 0 < 2 by decide)
    omega
theorem fails_mono_rb {L : Looms} : ∀ {k : Nat} {n : Node}, Fails L k n → ∃ d, RB L d n
  | 0, _, h => h.elim
  | k + 1, n, ⟨r, h1, h2, h3⟩ => by
    rcases h3 with h3 | ⟨m, h3, h4⟩
    · exact ⟨0, r, h1, h3⟩
    · obtain ⟨d, h5⟩ := fails_mono_rb h4
      exact ⟨d + 1, m, ⟨r, h1, h3⟩, h5⟩
end K6
set_option Elab.async false
set_option linter.all false
set_option maxRecDepth 100000
namespace K6
/-! ### the search of overlays -/
def wt (m n : Nat) (p : List (Nat × Nat)) : Nat := match p.getLast? with
  | some c => 4 ^ ((m - 1 - c.1) + (n - 1 - c.2))
  | none => 0
theorem wt_snoc {m n : Nat} {q : List (Nat × Nat)} {i j : Nat} : wt m n (q ++ [(i, j)]) = 4 ^ ((m - 1 - i) + (n - 1 - j)) := by simp [wt]
def wts (m n : Nat) (ps : List (List (Nat × Nat))) : Nat := (ps.map (wt m n)).sum
theorem wts_app {m n : Nat} {a b : List (List (Nat × Nat))} : wts m n (a ++ b) = wts m n a + wts m n b := by simp [wts]
def Pre (m n : Nat) (p : List (Nat × Nat)) : Prop := ∃ q i j, p = q ++ [(i, j)] ∧ i < m ∧ j < n ∧ ∀ rest, WayFrom m n i j rest → WayFrom m n 0 0 (q ++ rest)
def ExtW (m n : Nat) (p w : List (Nat × Nat)) : Prop := ∃ q i j rest, p = q ++ [(i, j)] ∧ w = q ++ rest ∧ WayFrom m n i j rest
structure OvInv (m n : Nat) (found waiting : List (List (Nat × Nat))) : Prop where
  f : ∀ w ∈ found, WayFrom m n 0 0 w
  p : ∀ p ∈ waiting, Pre m n p
  all : ∀ w, WayFrom m n 0 0 w → w ∈ found ∨ ∃ p ∈ waiting, ExtW m n p w
  size : found.length + wts m n waiting ≤ 4 ^ ((m - 1) + (n - 1))
theorem OvInv.start {m n : Nat} (hm : 0 < m) (hn : 0 < n) : OvInv m n [] [[(0, 0)]] := by
  refine ⟨fun w h => by simp at h, fun p h => ?_, fun w h => .inr ⟨_, List.mem_singleton.mpr rfl, [], 0, 0, w, rfl, rfl, h⟩, ?_⟩
  · rw [List.mem_singleton.mp h]
    exact ⟨[], 0, 0, rfl, hm, hn, fun rest h => h⟩
  · simp [wts, wt]
theorem OvInv.done {m n : Nat} {found : List (List (Nat × Nat))} (h : OvInv m n found []) : (∀ w, w ∈ found ↔ WayFrom m n 0 0 w) ∧ found.length ≤ 4 ^ ((m - 1) + (n - 1)) := by
  refine ⟨fun w => ⟨h.f w, fun hw => ?_⟩, by have := h.size; omega⟩
  rcases h.all w hw with q | ⟨p, q, _⟩
  · exact q
  · simp at q
theorem pre_pos {m n : Nat} {p : List (Nat × Nat)} (h : Pre m n p) : 0 < wt m n p := by
  obtain ⟨q, i, j, rfl, _⟩ := h
  rw [wt_snoc]; exact Nat.pow_pos (by decide)
theorem wts_len {m n : Nat} : ∀ {ps : List (List (Nat × Nat))}, (∀ p ∈ ps, Pre m n p) → ps.length ≤ wts m n ps
  | [], _ => Nat.zero_le _
  | p :: ps, h => by
    have h1 := pre_pos (h p List.mem_cons_self)
    have h2 := wts_len (ps := ps) fun q hq => h q (List.mem_cons_of_mem _ hq)
    have e : wts m n (p :: ps) = wt m n p + wts m n ps := by simp [wts]
    rw [e, List.length_cons]; omega
def kids (m n i j : Nat) (p : List (Nat × Nat)) : List (List (Nat × Nat)) :=
  (if i + 1 < m then [p ++ [(i + 1, j)]] else []) ++ ((if j + 1 < n then [p ++ [(i, j + 1)]] else []) ++ (if i + 1 < m ∧ j + 1 < n then [p ++ [(i + 1, j + 1)]] else []))
theorem kids_wt {m n i j : Nat} {q : List (Nat × Nat)} (hi : i < m) (hj : j < n) : wts m n (kids m n i j (q ++ [(i, j)])) + (if i + 1 = m ∧ j + 1 = n then 1 else 0) ≤ wt m n (q ++ [(i, j)]) ∧ wts m n (kids m n i j (q ++ [(i, j)])) < wt m n (q ++ [(i, j)]) := by
  rw [wt_snoc]
  have e0 : ∀ a b : Nat, wts m n [q ++ [(i, j)] ++ [(a, b)]] = 4 ^ ((m - 1 - a) + (n - 1 - b)) := fun a b => by
    simp [wts, wt]
  unfold kids
  rw [wts_app, wts_app]
  have z : wts m n [] = 0 := rfl
  by_cases h1 : i + 1 < m
  · by_cases h2 : j + 1 < n
    · rw [if_pos h1, if_pos h2, if_pos ⟨h1, h2⟩, e0, e0, e0, if_neg (by omega)]
      obtain ⟨a, ha⟩ : ∃ a, m - 1 - i = a + 1 := ⟨m - 1 - i - 1, by omega⟩
      obtain ⟨b, hb⟩ : ∃ b, n - 1 - j = b + 1 := ⟨n - 1 - j - 1, by omega⟩
      rw [show m - 1 - (i + 1) = a by omega, show n - 1 - (j + 1) = b by omega, ha, hb]
      have p0 : 0 < 4 ^ (a + b) := Nat.pow_pos (by decide)
      have p1 : 4 ^ (a + (b + 1)) = 4 * 4 ^ (a + b) := by rw [← Nat.add_assoc, Nat.pow_succ]; omega
      have p2 : 4 ^ (a + 1 + b) = 4 * 4 ^ (a + b) := by rw [show a + 1 + b = (a + b) + 1 by omega, Nat.pow_succ]; omega
      have p3 : 4 ^ (a + 1 + (b + 1)) = 16 * 4 ^ (a + b) := by rw [show a + 1 + (b + 1) = (a + b) + 1 + 1 by omega, Nat.pow_succ, Nat.pow_succ]; omega
      rw [p1, p2, p3]; omega
    · rw [if_pos h1, if_neg h2, if_neg (fun c => h2 c.2), e0, z, if_neg (by omega)]
      obtain ⟨a, ha⟩ : ∃ a, m - 1 - i = a + 1 := ⟨m - 1 - i - 1, by omega⟩
      rw [show m - 1 - (i + 1) = a by omega, ha]
      have p0 : 0 < 4 ^ (a + (n - 1 - j)) := Nat.pow_pos (by decide)
      have p2 : 4 ^ (a + 1 + (n - 1 - j)) = 4 * 4 ^ (a + (n - 1 - j)) := by rw [show a + 1 + (n - 1 - j) = (a + (n - 1 - j)) + 1 by omega, Nat.pow_succ]; omega
      rw [p2]; omega
  · by_cases h2 : j + 1 < n
    · rw [if_neg h1, if_pos h2, if_neg (fun c => h1 c.1), e0, z, if_neg (by omega)]
      obtain ⟨b, hb⟩ : ∃ b, n - 1 - j = b + 1 := ⟨n - 1 - j - 1, by omega⟩
      rw [show n - 1 - (j + 1) = b by omega, hb]
      have p0 : 0 < 4 ^ ((m - 1 - i) + b) := Nat.pow_pos (by decide)
      have p2 : 4 ^ ((m - 1 - i) + (b + 1)) = 4 * 4 ^ ((m - 1 - i) + b) := by rw [← Nat.add_assoc, Nat.pow_succ]; omega
      rw [p2]; omega
    · rw [if_neg h1, if_neg h2, if_neg (fun c => h1 c.1), z]
      have p0 : 0 < 4 ^ ((m - 1 - i) + (n - 1 - j)) := Nat.pow_pos (by decide)
      by_cases h3 : i + 1 = m ∧ j + 1 = n
      · rw [if_pos h3]; omega
      · rw [if_neg h3]; omega
theorem OvInv.step {m n : Nat} {found ws : List (List (Nat × Nat))} {q : List (Nat × Nat)} {i j : Nat} (h : OvInv m n found (ws ++ [q ++ [(i, j)]])) :
    i < m ∧ j < n ∧ OvInv m n (found ++ if i + 1 = m ∧ j + 1 = n then [q ++ [(i, j)]] else []) (ws ++ kids m n i j (q ++ [(i, j)])) := by
  obtain ⟨q', i', j', e, hi, hj, hp⟩ := h.p (q ++ [(i, j)]) (List.mem_append_right _ (List.mem_singleton.mpr rfl))
  obtain ⟨e1, e2⟩ := List.append_inj' e rfl
  cases e1
  have e3 := List.head_eq_of_cons_eq e2
  cases e3
  have hk := kids_wt (q := q) hi hj
  refine ⟨hi, hj, ?_, ?_, ?_, ?_⟩
  · intro w hw
    rcases List.mem_append.mp hw with hw | hw
    · exact h.f w hw
    · split at hw
      · rename_i c
        rw [List.mem_singleton.mp hw]
        exact hp _ (.last c.1 c.2)
      · simp at hw
  · intro p hp'
    rcases List.mem_append.mp hp' with hp' | hp'
    · exact h.p p (List.mem_append_left _ hp')
    · unfold kids at hp'
      rcases List.mem_append.mp hp' with hp' | hp'
      · split at hp'
        · rename_i c
          rw [List.mem_singleton.mp hp']
          exact ⟨q ++ [(i, j)], i + 1, j, rfl, c, hj, fun rest hr => by rw [List.append_assoc]; exact hp _ (.rt c hj hr)⟩
        · simp at hp'
      · rcases List.mem_append.mp hp' with hp' | hp'
        · split at hp'
          · rename_i c
            rw [List.mem_singleton.mp hp']
            exact ⟨q ++ [(i, j)], i, j + 1, rfl, hi, c, fun rest hr => by rw [List.append_assoc]; exact hp _ (.dn hi c hr)⟩
          · simp at hp'
        · split at hp'
          · rename_i c
            rw [List.mem_singleton.mp hp']
            exact ⟨q ++ [(i, j)], i + 1, j + 1, rfl, c.1, c.2, fun rest hr => by rw [List.append_assoc]; exact hp _ (.bo c.1 c.2 hr)⟩
          · simp at hp'
  · intro w hw
    rcases h.all w hw with z | ⟨p, z, hE⟩
    · exact .inl (List.mem_append_left _ z)
    · rcases List.mem_append.mp z with z | z
      · exact .inr ⟨p, List.mem_append_left _ z, hE⟩
      · rw [List.mem_singleton.mp z] at hE
        obtain ⟨q2, i2, j2, rest, e, ew, hr⟩ := hE
        obtain ⟨e1, e2⟩ := List.append_inj' e rfl
        cases e1
        have e3 := List.head_eq_of_cons_eq e2
        cases e3
        subst ew
        cases hr with
        | last c1 c2 =>
          refine .inl (List.mem_append_right _ ?_)
          rw [if_pos ⟨c1, c2⟩]; simp
        | rt c1 c2 hr =>
          refine .inr ⟨q ++ [(i, j)] ++ [(i + 1, j)], List.mem_append_right _ ?_, q ++ [(i, j)], i + 1, j, _, rfl, by simp, hr⟩
          unfold kids; rw [if_pos c1]; simp
        | dn c1 c2 hr =>
          refine .inr ⟨q ++ [(i, j)] ++ [(i, j + 1)], List.mem_append_right _ ?_, q ++ [(i, j)], i, j + 1, _, rfl, by simp, hr⟩
          unfold kids; rw [if_pos c2]; simp
        | bo c1 c2 hr =>
          refine .inr ⟨q ++ [(i, j)] ++ [(i + 1, j + 1)], List.mem_append_right _ ?_, q ++ [(i, j)], i + 1, j + 1, _, rfl, by simp, hr⟩
          unfold kids; rw [if_pos (show i + 1 < m ∧ j + 1 < n from ⟨c1, c2⟩)]; simp
  · have hs := h.size
    rw [wts_app] at hs ⊢
    have e : wts m n [q ++ [(i, j)]] = wt m n (q ++ [(i, j)]) := by simp [wts]
    rw [e] at hs
    rw [List.length_append]
    have e2 : (if i + 1 = m ∧ j + 1 = n then [q ++ [(i, j)]] else []).length = (if i + 1 = m ∧ j + 1 = n then 1 else 0) := by split <;> rfl
    rw [e2]
    have := hk.1
    omega
theorem wts_step {m n : Nat} {ws : List (List (Nat × Nat))} {q : List (Nat × Nat)} {i j : Nat} (hi : i < m) (hj : j < n) : wts m n (ws ++ kids m n i j (q ++ [(i, j)])) < wts m n (ws ++ [q ++ [(i, j)]]) := by
  rw [wts_app, wts_app]
  have := (kids_wt (q := q) hi hj).2
  have e : wts m n [q ++ [(i, j)]] = wt m n (q ++ [(i, j)]) := by simp [wts]
  omega
theorem ovway_ex {m n : Nat} : ∀ (d : Nat) {i j : Nat}, i < m → j < n → (m - 1 - i) + (n - 1 - j) ≤ d → ∃ rest, WayFrom m n i j rest
  | 0, i, j, hi, hj, hd => ⟨_, .last (by omega) (by omega)⟩
  | d + 1, i, j, hi, hj, hd => by
    by_cases h1 : i + 1 < m
    · obtain ⟨r, hr⟩ := ovway_ex d h1 hj (by omega)
      exact ⟨_, .rt h1 hj hr⟩
    · by_cases h2 : j + 1 < n
      · obtain ⟨r, hr⟩ := ovway_ex d hi h2 (by omega)
        exact ⟨_, .dn hi h2 hr⟩
      · exact ⟨_, .last (by omega) (by omega)⟩
theorem pre_len {m n i j : Nat} {q : List (Nat × Nat)} (hi : i < m) (hj : j < n) (h : ∀ rest, WayFrom m n i j rest → WayFrom m n 0 0 (q ++ rest)) : (q ++ [(i, j)]).length ≤ m + n := by
  obtain ⟨r, hr⟩ := ovway_ex _ hi hj (Nat.le_refl _)
  have h1 := List.length_pos_iff.mpr hr.ne
  have h2 := (h r hr).len
  rw [List.length_append] at h2 ⊢
  simp
  omega
theorem ov_size5 {m n : Nat} (h0 : 0 < m) (h1 : 0 < n) (h : m + n ≤ 5) : 4 ^ ((m - 1) + (n - 1)) ≤ 64 :=
  Nat.le_trans (Nat.pow_le_pow_right (by decide) (show (m - 1) + (n - 1) ≤ 3 by omega)) (by decide)
theorem ov_size {m n : Nat} (h0 : 0 < m) (h1 : 0 < n) (h : m + n ≤ 8) : 4 ^ ((m - 1) + (n - 1)) ≤ 4096 :=
  Nat.le_trans (Nat.pow_le_pow_right (by decide) (show (m - 1) + (n - 1) ≤ 6 by omega)) (by decide)
end K6
set_option Elab.async false
set_option linter.all false
set_option maxRecDepth 100000
namespace K6
/-! ### rows of pieces -/
def ins (l : List Nat) (p : Nat) : List Nat := if p ∈ l then l else l ++ [p]
theorem mem_ins {l : List Nat} {p q : Nat} : q ∈ ins l p ↔ q ∈ l ∨ q = p := by
  unfold ins
  split
  · rename_i h
    constructor
    · exact .inl
    · rintro (h' | rfl) <;> assumption
  · simp
theorem nd_ins {l : List Nat} {p : Nat} (h : l.Nodup) : (ins l p).Nodup := by
  unfold ins
  split
  · exact h
  · rename_i q
    rw [List.nodup_append]
    exact ⟨h, by simp, fun a ha b hb => by rw [List.mem_singleton.mp hb]; intro e; exact q (e ▸ ha)⟩
def oneE (w : List Int) (x : Int) (late : List Nat) (p : Nat) : List Nat :=
  let l1 := if w[p]? = some x then ins late p else late
  if w[p + 1]? = some x then ins l1 (p + 1) else l1
def stepE (w : List Int) (x : Int) (E : List Nat) : List Nat := E.foldl (oneE w x) []
def runE (w : List Int) (E : List Nat) (row : List Int) : List Nat := row.foldl (fun E x => stepE w x E) E
theorem oneE_sub {w : List Int} {x : Int} {late : List Nat} {p q : Nat} (h : q ∈ late) : q ∈ oneE w x late p := by
  unfold oneE
  dsimp only
  split <;> split <;> simp [mem_ins, h]
theorem oneE_stay {w : List Int} {x : Int} {late : List Nat} {p : Nat} (h : w[p]? = some x) : p ∈ oneE w x late p := by
  unfold oneE
  dsimp only
  rw [if_pos h]
  split <;> simp [mem_ins]
theorem oneE_go {w : List Int} {x : Int} {late : List Nat} {p : Nat} (h : w[p + 1]? = some x) : p + 1 ∈ oneE w x late p := by
  unfold oneE
  dsimp only
  rw [if_pos h]
  simp [mem_ins]
theorem foldE_sub {w : List Int} {x : Int} {q : Nat} : ∀ {E late : List Nat}, q ∈ late → q ∈ E.foldl (oneE w x) late
  | [], _, h => h
  | _ :: E, _, h => foldE_sub (E := E) (oneE_sub h)
theorem foldE_mem {w : List Int} {x : Int} {p q : Nat} (k : ∀ late, q ∈ oneE w x late p) : ∀ {E late : List Nat}, p ∈ E → q ∈ E.foldl (oneE w x) late
  | a :: E, late, h => by
    rcases List.mem_cons.mp h with e | h
    · subst e; exact foldE_sub (E := E) (k _)
    · exact foldE_mem k (E := E) h
theorem stepE_stay {w : List Int} {x : Int} {E : List Nat} {p : Nat} (hp : p ∈ E) (h : w[p]? = some x) : p ∈ stepE w x E := foldE_mem (fun _ => oneE_stay h) hp
theorem stepE_go {w : List Int} {x : Int} {E : List Nat} {p : Nat} (hp : p ∈ E) (h : w[p + 1]? = some x) : p + 1 ∈ stepE w x E := foldE_mem (fun _ => oneE_go h) hp
theorem runE_rep {w : List Int} {x : Int} {p : Nat} (h : w[p]? = some x) : ∀ (n : Nat) {E : List Nat}, p ∈ E → p ∈ runE w E (List.replicate n x)
  | 0, _, hp => hp
  | n + 1, E, hp => by
    rw [List.replicate_succ]
    exact runE_rep h n (stepE_stay hp h)
theorem runE_app {w : List Int} {E : List Nat} {a b : List Int} : runE w E (a ++ b) = runE w (runE w E a) b := by simp [runE]
theorem runE_pieces {w : List Int} : ∀ (rest : List Int) (ls : List Nat) (a : Int) (p n : Nat) {E : List Nat}, w.drop p = a :: rest → rest.length = ls.length → Pos ls → p ∈ E → w.length - 1 ∈ runE w E (List.replicate n a ++ expand rest ls)
  | [], ls, a, p, n, E, hw, hl, hP, hp => by
    have h1 : w[p]? = some a := by
      have := congrArg (fun l => l[0]?) hw
      simpa using this
    have h2 : p = w.length - 1 := by
      have := congrArg List.length hw
      simp at this
      omega
    have e : expand ([] : List Int) ls = [] := by cases ls <;> rfl
    rw [e, List.append_nil, ← h2]
    exact runE_rep h1 n hp
  | b :: rest, [], _, _, _, _, _, hl, _, _ => by simp at hl
  | b :: rest, m :: ms, a, p, n, E, hw, hl, hP, hp => by
    have h1 : w[p]? = some a := by
      have := congrArg (fun l => l[0]?) hw
      simpa using this
    have h2 : w[p + 1]? = some b := by
      have := congrArg (fun l => l[1]?) hw
      simpa using this
    have hm := hP.head
    obtain ⟨m', rfl⟩ : ∃ m', m = m' + 1 := ⟨m - 1, by omega⟩
    rw [runE_app]
    have q := runE_rep h1 n hp
    show w.length - 1 ∈ runE w _ (List.replicate (m' + 1) b ++ expand rest ms)
    rw [List.replicate_succ, List.cons_append]
    show w.length - 1 ∈ runE w (stepE w b (runE w E (List.replicate n a))) (List.replicate m' b ++ expand rest ms)
    refine runE_pieces rest ms b (p + 1) m' ?_ (by simpa using hl) hP.tail (stepE_go q h2)
    have := congrArg List.tail hw
    simpa [List.tail_drop] using this
def startE (w row : List Int) : List Nat := if row.take 1 = w.take 1 then [0] else []
def hasB (w row : List Int) : Bool := decide (w.length - 1 ∈ runE w (startE w row) row.tail)
theorem hasB_expand {w : List Int} {ls : List Nat} (hw : w ≠ []) (hl : w.length = ls.length) (hP : Pos ls) : hasB w (expand w ls) = true := by
  match w, ls, hw, hl with
  | a :: rest, n :: ls, _, hl =>
    have hn := hP.head
    obtain ⟨n', rfl⟩ : ∃ n', n = n' + 1 := ⟨n - 1, by omega⟩
    have e : expand (a :: rest) ((n' + 1) :: ls) = a :: (List.replicate n' a ++ expand rest ls) := by
      show List.replicate (n' + 1) a ++ _ = _
      rw [List.replicate_succ, List.cons_append]
    unfold hasB
    rw [e]
    have es : startE (a :: rest) (a :: (List.replicate n' a ++ expand rest ls)) = [0] := by simp [startE]
    rw [es]
    refine decide_eq_true ?_
    exact runE_pieces rest ls a 0 n' rfl (by simpa using hl) hP.tail (by simp)
  | _ :: _, [], _, hl => simp at hl
  | [], _, hw, _ => exact absurd rfl hw
/-- the ends stay places of the word, each once -/
def EOk (w : List Int) (E : List Nat) : Prop := E.Nodup ∧ ∀ p ∈ E, p < w.length
theorem oneE_ok {w : List Int} {x : Int} {late : List Nat} {p : Nat} (h : EOk w late) : EOk w (oneE w x late p) := by
  unfold oneE
  dsimp only
  have h1 : EOk w (if w[p]? = some x then ins late p else late) := by
    split
    · rename_i q
      refine ⟨nd_ins h.1, fun r hr => ?_⟩
      rcases mem_ins.mp hr with hr | hr
      · exact h.2 r hr
      · rw [hr]; exact (List.getElem?_eq_some_iff.mp q).1
    · exact h
  split
  · rename_i q
    refine ⟨nd_ins h1.1, fun r hr => ?_⟩
    rcases mem_ins.mp hr with hr | hr
    · exact h1.2 r hr
    · rw [hr]; exact (List.getElem?_eq_some_iff.mp q).1
  · exact h1
theorem foldE_ok {w : List Int} {x : Int} : ∀ {E late : List Nat}, EOk w late → EOk w (E.foldl (oneE w x) late)
  | [], _, h => h
  | _ :: E, _, h => foldE_ok (E := E) (oneE_ok h)
theorem stepE_ok {w : List Int} {x : Int} {E : List Nat} : EOk w (stepE w x E) := foldE_ok ⟨List.nodup_nil, fun p hp => by simp at hp⟩
theorem nd_len : ∀ {n : Nat} {l : List Nat}, l.Nodup → (∀ p ∈ l, p < n) → l.length ≤ n
  | 0, [], _, _ => Nat.le_refl _
  | 0, a :: _, _, h => absurd (h a List.mem_cons_self) (Nat.not_lt_zero _)
  | n + 1, l, hn, h => by
    by_cases q : n ∈ l
    · have h1 := nd_len (n := n) (hn.erase n) fun p hp => by
        obtain ⟨hne, hm⟩ := (List.Nodup.mem_erase_iff hn).mp hp
        have := h p hm
        omega
      rw [List.length_erase_of_mem q] at h1
      omega
    · have h1 := nd_len (n := n) hn fun p hp => by
        have := h p hp
        have : p ≠ n := fun e => q (e ▸ hp)
        omega
      omega
theorem EOk.len {w : List Int} {E : List Nat} (h : EOk w E) : E.length ≤ w.length := nd_len h.1 h.2
theorem startE_ok {w row : List Int} (hw : w ≠ []) : EOk w (startE w row) := by
  unfold startE
  split
  · exact ⟨by simp, fun p hp => by rw [List.mem_singleton.mp hp]; exact List.length_pos_iff.mpr hw⟩
  · exact ⟨List.nodup_nil, fun p hp => by simp at hp⟩
theorem runE_ok {w : List Int} : ∀ {row : List Int} {E : List Nat}, EOk w E → EOk w (runE w E row)
  | [], _, h => h
  | x :: row, E, h => runE_ok (row := row) (E := stepE w x E) stepE_ok
end K6
set_option Elab.async false
set_option linter.all false
set_option maxRecDepth 100000
namespace K6
theorem expand_snoc {α : Type} (a : α) (n : Nat) : ∀ (w : List α) (ls : List Nat), w.length = ls.length → expand (w ++ [a]) (ls ++ [n]) = expand w ls ++ List.replicate n a
  | [], [], _ => by simp [expand]
  | [], _ :: _, h => by simp at h
  | _ :: _, [], h => by simp at h
  | b :: w, m :: ls, h => by
    have h' : w.length = ls.length := by simpa using h
    show List.replicate m b ++ expand (w ++ [a]) (ls ++ [n]) = (List.replicate m b ++ expand w ls) ++ _
    rw [expand_snoc a n w ls h', List.append_assoc]
theorem sumAt_snoc (i j n : Nat) : ∀ (l ls : List Nat), l.length = ls.length → sumAt i (l ++ [j]) (ls ++ [n]) = sumAt i l ls + if j = i then n else 0
  | [], [], _ => by simp [sumAt]
  | [], _ :: _, h => by simp at h
  | _ :: _, [], h => by simp at h
  | b :: l, m :: ls, h => by
    have h' : l.length = ls.length := by simpa using h
    show (if b = i then m else 0) + sumAt i (l ++ [j]) (ls ++ [n]) = ((if b = i then m else 0) + sumAt i l ls) + _
    rw [sumAt_snoc i j n l ls h']; omega
theorem tal_nil (m : Nat) : tal m [] [] = List.replicate m 0 := by
  unfold tal
  refine List.ext_getElem? fun i => ?_
  rw [List.getElem?_map]
  by_cases h : i < m
  · simp [h, sumAt]
  · rw [List.getElem?_eq_none (by simpa using h), List.getElem?_eq_none (by simpa using h)]; rfl
theorem tal_get {m j : Nat} {l ls : List Nat} (h : j < m) : (tal m l ls)[j]? = some (sumAt j l ls) := by
  unfold tal
  simp [h]
theorem tal_len (m : Nat) (l ls : List Nat) : (tal m l ls).length = m := by simp [tal]
theorem tal_set {m j n : Nat} {l ls : List Nat} (h : l.length = ls.length) : (tal m l ls).set j (sumAt j l ls + n) = tal m (l ++ [j]) (ls ++ [n]) := by
  refine List.ext_getElem? fun i => ?_
  by_cases hi : i < m
  · rw [tal_get hi, sumAt_snoc i j n l ls h]
    by_cases e : j = i
    · subst e
      rw [List.getElem?_set_self (by rw [tal_len]; exact hi), if_pos rfl]
    · rw [List.getElem?_set_ne e, tal_get hi, if_neg e]; rfl
  · rw [List.getElem?_eq_none (by rw [List.length_set, tal_len]; omega), List.getElem?_eq_none (by rw [tal_len]; omega)]
theorem sumAt_le (i : Nat) : ∀ (l ls : List Nat), sumAt i l ls ≤ ls.sum
  | [], _ => by simp [sumAt]
  | _ :: _, [] => by simp [sumAt]
  | b :: l, m :: ls => by
    have := sumAt_le i l ls
    show (if b = i then m else 0) + sumAt i l ls ≤ (m :: ls).sum
    rw [List.sum_cons]
    split <;> omega
theorem expand_take_len {α : Type} (w : List α) (ls : List Nat) (i : Nat) (h : w.length = ls.length) : (expand (w.take i) (ls.take i)).length ≤ ls.sum := by
  rw [expand_length _ _ (by rw [List.length_take, List.length_take, h])]
  have e : ls.sum = (ls.take i).sum + (ls.drop i).sum := by rw [← List.sum_append, List.take_append_drop]
  omega
end K6
set_option Elab.async false
set_option linter.all false
set_option maxRecDepth 100000
namespace K6
theorem path_at {L : Looms} (hW : WF L) {n e : Node} {p : List PStep} (h : PathOk L n p e) (hg : Good n) : ∀ (j : Nat) (x : PStep), p[j]? = some x → ∃ m c, Good m ∧ x.1.1 = (L.at m.nm).steps ∧ LevOf m.w x.1.2 ∧ (L.at m.nm).call x.2.1 = some c ∧ x.2.2 = c.2 ∧ Good (child c m.up (halfW x.1 x.2.1)) ∧ PathOk L (child c m.up (halfW x.1 x.2.1)) (p.drop (j + 1)) e := by
  induction h with
  | nil => intro j x hx; simp at hx
  | @cons n e v s c p h1 h2 h3 hp ih =>
    have hg' : Good (child c n.up (halfW v s)) := (row_good hW hg (r := ⟨v, some s, some (child c n.up (halfW v s)), c.2⟩) ⟨h1, h2, .inr ⟨s, c, h3, rfl⟩⟩ rfl).1
    intro j x hx
    cases j with
    | zero =>
      simp at hx
      subst hx
      exact ⟨n, c, hg, h1, h2, h3, rfl, hg', by simpa using hp⟩
    | succ j =>
      obtain ⟨m, c', r⟩ := ih hg' j x (by simpa using hx)
      exact ⟨m, c', by simpa using r⟩
theorem path_end {L : Looms} (hW : WF L) {n e : Node} {p : List PStep} (h : PathOk L n p e) (hg : Good n) : Good e := by
  induction h with
  | nil => exact hg
  | @cons n e v s c p h1 h2 h3 hp ih => exact ih (row_good hW hg (r := ⟨v, some s, some (child c n.up (halfW v s)), c.2⟩) ⟨h1, h2, .inr ⟨s, c, h3, rfl⟩⟩ rfl).1
/-- what row_at needs at each step of built -/
theorem built_step {L : Looms} (hI : InsideAll L) {n e : Node} {p : List PStep} (h : PathOk L n p e) (hg : Good n) {r : PRow} (hr : RowOf L e r) (hb : r.node = none) {ls : List Nat} {k : Nat} (hl : ls.length = r.lv.2.way.length) (pl : Pos ls) (hs : ls.sum = 2 ^ k) :
    (builtM p r.lv ls).2.length = n.w.length ∧ (builtM p r.lv ls).2.sum = 2 ^ (k + 1 + p.length) := by
  obtain ⟨b1, b2, b3, b4, _⟩ := built_ok hI h hr hb hl pl hs hg.2.1
  refine ⟨b2, ?_⟩
  rw [← expand_length n.w _ b2.symm, ← b1]
  exact b4
theorem drop_one_more {α : Type} {p : List α} {i : Nat} (h : i < p.length) : ∃ x, p[p.length - 1 - i]? = some x ∧ p.reverse[i]? = some x ∧ p.drop (p.length - (i + 1)) = x :: p.drop (p.length - i) := by
  have h1 : p.length - 1 - i < p.length := by omega
  refine ⟨p[p.length - 1 - i], by rw [List.getElem?_eq_getElem h1], ?_, ?_⟩
  · rw [List.getElem?_reverse h, List.getElem?_eq_getElem h1]
  · rw [show p.length - (i + 1) = p.length - 1 - i by omega, List.drop_eq_getElem_cons h1, show p.length - 1 - i + 1 = p.length - i by omega]
end K6
set_option linter.all false
namespace K6
/-! ### closed sets of nodes -/
def signs : Nat → List (List Int)
  | 0 => [[]]
  | k + 1 => (signs k).flatMap fun w => [0 :: w, 1 :: w]
theorem mem_signs : ∀ {w : List Int}, Sign w → w ∈ signs w.length
  | [], _ => by simp [signs]
  | a :: w, h => by
    have ih := mem_signs (w := w) fun x hx => h x (List.mem_cons_of_mem _ hx)
    rw [List.length_cons, signs, List.mem_flatMap]
    refine ⟨w, ih, ?_⟩
    rcases h a List.mem_cons_self with rfl | rfl <;> simp
def uni : List Node := [0, 1, 2].flatMap fun nm => [true, false].flatMap fun up => [0, 1, 2, 3, 4].flatMap fun k => (signs k).map fun w => ⟨nm, up, w⟩
theorem uni_len : uni.length = 186 := by decide +kernel
theorem good_uni {n : Node} (h : Good n) : n ∈ uni := by
  obtain ⟨nm, up, w⟩ := n
  obtain ⟨h1, h2, h3⟩ := h
  simp only at h1 h2 h3
  unfold uni
  rw [List.mem_flatMap]
  refine ⟨nm, by
    have : nm = 0 ∨ nm = 1 ∨ nm = 2 := by omega
    rcases this with rfl | rfl | rfl <;> simp, ?_⟩
  rw [List.mem_flatMap]
  refine ⟨up, by cases up <;> simp, ?_⟩
  rw [List.mem_flatMap]
  refine ⟨w.length, by
    have : w.length = 0 ∨ w.length = 1 ∨ w.length = 2 ∨ w.length = 3 ∨ w.length = 4 := by omega
    rcases this with q | q | q | q | q <;> rw [q] <;> simp, ?_⟩
  exact List.mem_map.mpr ⟨w, mem_signs h2, rfl⟩
/-- a row leads into F -/
def RowIn (F : List Node) (r : PRow) : Prop := ∃ m, r.node = some m ∧ m ∈ F
def Closed (L : Looms) (F : List Node) : Prop := ∀ n ∈ F, ∀ r, RowOf L n r → RowIn F r
theorem closed_rb {L : Looms} {F : List Node} (h : Closed L F) : ∀ {d : Nat} {n : Node}, n ∈ F → ¬ RB L d n
  | 0, n, hn, ⟨r, h1, h2⟩ => by
    obtain ⟨m, e, _⟩ := h n hn r h1
    rw [h2] at e; cases e
  | d + 1, n, hn, ⟨m, ⟨r, h1, h2⟩, h3⟩ => by
    obtain ⟨m', e, hm⟩ := h n hn r h1
    rw [h2] at e; cases e
    exact closed_rb h hm h3
/-- found from the nodes S -/
def From (L : Looms) (S : List Node) (n : Node) : Prop := ∃ s ∈ S, ∀ d, RB L d n → ∃ e, RB L e s
structure ClInv (L : Looms) (S F W : List Node) : Prop where
  s : ∀ n ∈ S, n ∈ F
  f : ∀ n ∈ F, From L S n
  nd : F.Nodup
  g : ∀ n ∈ F, Good n
  w : ∀ n ∈ W, n ∈ F
  c : ∀ n ∈ F, n ∈ W ∨ ∀ r, RowOf L n r → RowIn F r
theorem ClInv.size {L : Looms} {S F W : List Node} (h : ClInv L S F W) : F.length ≤ 186 := by
  rw [← uni_len]
  exact nodup_le F uni h.nd fun n hn => good_uni (h.g n hn)
theorem ClInv.done {L : Looms} {S F : List Node} (h : ClInv L S F []) : Closed L F := fun n hn r hr => by
  rcases h.c n hn with q | q
  · simp at q
  · exact q r hr
/-- within the rows of the node n, the first i of them done -/
structure ClIn (L : Looms) (S F W : List Node) (n : Node) (rs : List PRow) (i : Nat) : Prop where
  s : ∀ n ∈ S, n ∈ F
  f : ∀ n ∈ F, From L S n
  nd : F.Nodup
  g : ∀ n ∈ F, Good n
  w : ∀ n ∈ W, n ∈ F
  isin : n ∈ F
  c : ∀ k ∈ F, k ∈ W ∨ k = n ∨ ∀ r, RowOf L k r → RowIn F r
  r : ∀ r ∈ rs.take i, RowIn F r
theorem ClInv.enter {L : Looms} {S F W : List Node} {n : Node} {rs : List PRow} (h : ClInv L S F (W ++ [n])) : ClIn L S F W n rs 0 where
  s := h.s
  f := h.f
  nd := h.nd
  g := h.g
  w := fun k hk => h.w k (by simp [hk])
  isin := h.w n (by simp)
  c := fun k hk => by
    rcases h.c k hk with q | q
    · rcases List.mem_append.mp q with q | q
      · exact .inl q
      · exact .inr (.inl (List.mem_singleton.mp q))
    · exact .inr (.inr q)
  r := by simp
theorem ClIn.leave {L : Looms} {S F W : List Node} {n : Node} {rs : List PRow} (hr : ∀ r, r ∈ rs ↔ RowOf L n r) (h : ClIn L S F W n rs rs.length) : ClInv L S F W where
  s := h.s
  f := h.f
  nd := h.nd
  g := h.g
  w := h.w
  c := fun k hk => by
    rcases h.c k hk with q | q | q
    · exact .inl q
    · subst q
      exact .inr fun r hr' => h.r r (by rw [List.take_length]; exact (hr r).mpr hr')
    · exact .inr q
theorem RowIn.mono {F : List Node} {r : PRow} {m : Node} (h : RowIn F r) : RowIn (F ++ [m]) r := by
  obtain ⟨k, e, hk⟩ := h
  exact ⟨k, e, List.mem_append_left _ hk⟩
/-- a row that leads to a node found before -/
theorem ClIn.old {L : Looms} {S F W : List Node} {n m : Node} {rs : List PRow} {i : Nat} {r : PRow} (h : ClIn L S F W n rs i) (e : rs[i]? = some r) (en : r.node = some m) (hm : m ∈ F) : ClIn L S F W n rs (i + 1) where
  s := h.s
  f := h.f
  nd := h.nd
  g := h.g
  w := h.w
  isin := h.isin
  c := h.c
  r := fun r' hr' => by
    rw [List.take_add_one, e] at hr'
    rcases List.mem_append.mp hr' with q | q
    · exact h.r r' q
    · have q' : r' = r := by simpa using q
      subst q'
      exact ⟨m, en, hm⟩
/-- a row that leads to a new node -/
theorem ClIn.fresh {L : Looms} {S F W : List Node} {n m : Node} {rs : List PRow} {i : Nat} {r : PRow} (hW : WF L) (h : ClIn L S F W n rs i) (e : rs[i]? = some r) (hr : RowOf L n r) (en : r.node = some m) (hm : ¬ m ∈ F) : ClIn L S (F ++ [m]) (W ++ [m]) n rs (i + 1) where
  s := fun k hk => List.mem_append_left _ (h.s k hk)
  f := fun k hk => by
    rcases List.mem_append.mp hk with q | q
    · exact h.f k q
    · rw [List.mem_singleton.mp q]
      obtain ⟨s, hs, hd⟩ := h.f n h.isin
      exact ⟨s, hs, fun d hb => hd (d + 1) ⟨m, ⟨r, hr, en⟩, hb⟩⟩
  nd := by
    rw [List.nodup_append]
    refine ⟨h.nd, by simp, fun a ha b hb => ?_⟩
    rw [List.mem_singleton.mp hb]
    intro q
    exact hm (q ▸ ha)
  g := fun k hk => by
    rcases List.mem_append.mp hk with q | q
    · exact h.g k q
    · rw [List.mem_singleton.mp q]
      exact (row_good hW (h.g n h.isin) hr en).1
  w := fun k hk => by
    rcases List.mem_append.mp hk with q | q
    · exact List.mem_append_left _ (h.w k q)
    · exact List.mem_append_right _ q
  isin := List.mem_append_left _ h.isin
  c := fun k hk => by
    rcases List.mem_append.mp hk with q | q
    · rcases h.c k q with z | z | z
      · exact .inl (List.mem_append_left _ z)
      · exact .inr (.inl z)
      · exact .inr (.inr fun r' hr' => (z r' hr').mono)
    · exact .inl (List.mem_append_right _ q)
  r := fun r' hr' => by
    rw [List.take_add_one, e] at hr'
    rcases List.mem_append.mp hr' with q | q
    · exact (h.r r' q).mono
    · have q' : r' = r := by simpa using q
      subst q'
      exact ⟨m, en, by simp⟩
/-- a row that breaks -/
theorem ClIn.bad {L : Looms} {S F W : List Node} {n : Node} {rs : List PRow} {i : Nat} {r : PRow} (h : ClIn L S F W n rs i) (hr : RowOf L n r) (en : r.node = none) : ∃ s ∈ S, ∃ d, RB L d s := by
  obtain ⟨s, hs, hd⟩ := h.f n h.isin
  obtain ⟨e, he⟩ := hd 0 ⟨r, hr, en⟩
  exact ⟨s, hs, e, he⟩
def clM (F W : List Node) : Nat := W.length + 2 * (186 - F.length)
end K6
set_option Elab.async false
set_option linter.all false
set_option maxRecDepth 100000
namespace K6
open PySem L2
/-! ### the text by places -/
def top (i : Nat) : Stmt := PySem.Challenge.pw_strandloom_k06_whole_blocks.main.body.getD i (.Pass ⟨0, 0, 0, 0⟩)
abbrev sBadloomInit : Stmt := inClass (top 3) 0
abbrev sOutsideInit : Stmt := inClass (top 5) 0
abbrev sIsWhole : Stmt := top 7
abbrev sIsSign : Stmt := top 8
abbrev sCheckSigns : Stmt := top 9
abbrev sIsTitle : Stmt := top 16
abbrev sIsStep : Stmt := top 17
abbrev sIsCall : Stmt := top 18
abbrev sIsLoom : Stmt := top 19
abbrev sCheckLooms : Stmt := top 20
abbrev sCheckName : Stmt := top 21
abbrev sRelations : Stmt := top 22
abbrev sCheckInside : Stmt := top 23
abbrev sOrderPair : Stmt := top 24
abbrev sStepped : Stmt := top 25
abbrev sIsPower : Stmt := top 26
abbrev sCheckWidth : Stmt := top 27
abbrev sLoomed : Stmt := top 28
abbrev sDone : Stmt := top 29
abbrev sCalled : Stmt := top 30
abbrev sOverlays : Stmt := top 32
abbrev sSplits : Stmt := top 33
abbrev sLevelInit : Stmt := inClass (top 34) 0
abbrev sLevelStep : Stmt := inClass (top 34) 1
abbrev sLevelHalf : Stmt := inClass (top 34) 2
abbrev sLevelIsBad : Stmt := inClass (top 34) 3
abbrev sLevels : Stmt := top 35
abbrev sIsSorted : Stmt := top 39
abbrev sIsWord : Stmt := top 40
abbrev sCheckOrder : Stmt := top 41
abbrev sCheckWords : Stmt := top 42
abbrev sNodeOf : Stmt := top 43
abbrev sStepsOf : Stmt := top 44
abbrev sRowsFor : Stmt := top 45
abbrev sKeptInit : Stmt := inClass (top 46) 0
abbrev sKeptEq : Stmt := inClass (top 46) 1
abbrev sKeptBool : Stmt := inClass (top 46) 2
abbrev sKeptIsClosed : Stmt := inClass (top 46) 3
abbrev sKeptShows : Stmt := inClass (top 46) 4
abbrev sBrokenInit : Stmt := inClass (top 47) 0
abbrev sBrokenEq : Stmt := inClass (top 47) 1
abbrev sBrokenBool : Stmt := inClass (top 47) 2
abbrev sBrokenShows : Stmt := inClass (top 47) 3
abbrev sHasBlocks : Stmt := top 48
abbrev sCheckBlocks : Stmt := top 49
abbrev sClosedFrom : Stmt := top 50
abbrev sRowAt : Stmt := top 51
abbrev sBuilt : Stmt := top 52
abbrev sSearchInit : Stmt := inClass (top 53) 0
abbrev sSearchFound : Stmt := inClass (top 53) 1
abbrev sLeastRow : Stmt := top 54
abbrev sFirstSteps : Stmt := top 55
abbrev sJudgeBlocks : Stmt := top 56
abbrev sLawCellAt : Stmt := top 58
abbrev sLawDraw : Stmt := top 59
abbrev sLawNumber : Stmt := top 60
abbrev sLawNext : Stmt := top 61
abbrev sLawPick : Stmt := top 62
abbrev sLawSays : Stmt := top 63
abbrev sLawStep : Stmt := top 64
abbrev sLawLoom : Stmt := top 65
abbrev sLawHalves : Stmt := top 66
abbrev sLawDone : Stmt := top 67
abbrev sLawSpread : Stmt := top 68
abbrev sLaw : Stmt := top 69
theorem scBadloomInit : FnScope ["self", "name"] ["self", "name"] (defScope sBadloomInit) := ⟨rfl, rfl, rfl, by decide +kernel, rfl, by decide +kernel, by decide +kernel⟩
theorem scOutsideInit : FnScope ["self", "why"] ["self", "why"] (defScope sOutsideInit) := ⟨rfl, rfl, rfl, by decide +kernel, rfl, by decide +kernel, by decide +kernel⟩
theorem scIsWhole : FnScope ["thing"] ["thing"] (defScope sIsWhole) := ⟨rfl, rfl, rfl, by decide +kernel, rfl, by decide +kernel, by decide +kernel⟩
theorem scIsSign : FnScope ["thing"] ["thing"] (defScope sIsSign) := ⟨rfl, rfl, rfl, by decide +kernel, rfl, by decide +kernel, by decide +kernel⟩
theorem scCheckSigns : FnScope ["row", "sign"] ["row"] (defScope sCheckSigns) := ⟨rfl, rfl, rfl, by decide +kernel, rfl, by decide +kernel, by decide +kernel⟩
theorem scIsTitle : FnScope ["thing", "sign"] ["thing"] (defScope sIsTitle) := ⟨rfl, rfl, rfl, by decide +kernel, rfl, by decide +kernel, by decide +kernel⟩
theorem scIsStep : FnScope ["thing"] ["thing"] (defScope sIsStep) := ⟨rfl, rfl, rfl, by decide +kernel, rfl, by decide +kernel, by decide +kernel⟩
theorem scIsCall : FnScope ["thing", "looms"] ["thing", "looms"] (defScope sIsCall) := ⟨rfl, rfl, rfl, by decide +kernel, rfl, by decide +kernel, by decide +kernel⟩
theorem scIsLoom : FnScope ["thing", "looms", "call", "step"] ["thing", "looms"] (defScope sIsLoom) := ⟨rfl, rfl, rfl, by decide +kernel, rfl, by decide +kernel, by decide +kernel⟩
theorem scCheckLooms : FnScope ["looms", "name"] ["looms"] (defScope sCheckLooms) := ⟨rfl, rfl, rfl, by decide +kernel, rfl, by decide +kernel, by decide +kernel⟩
theorem scCheckName : FnScope ["looms", "name"] ["looms", "name"] (defScope sCheckName) := ⟨rfl, rfl, rfl, by decide +kernel, rfl, by decide +kernel, by decide +kernel⟩
theorem scRelations : FnScope ["steps", "step", "is_same", "found"] ["steps"] (defScope sRelations) := ⟨rfl, rfl, rfl, by decide +kernel, rfl, by decide +kernel, by decide +kernel⟩
theorem scCheckInside : FnScope ["looms", "name"] ["looms"] (defScope sCheckInside) := ⟨rfl, rfl, rfl, by decide +kernel, rfl, by decide +kernel, by decide +kernel⟩
theorem scOrderPair : FnScope ["one", "other", "order"] ["one", "other", "order"] (defScope sOrderPair) := ⟨rfl, rfl, rfl, by decide +kernel, rfl, by decide +kernel, by decide +kernel⟩
theorem scStepped : FnScope ["step", "left", "right", "other", "pairs", "first", "second", "one", "two", "pair"] ["step", "left", "right"] (defScope sStepped) := ⟨rfl, rfl, rfl, by decide +kernel, rfl, by decide +kernel, by decide +kernel⟩
theorem scIsPower : FnScope ["number"] ["number"] (defScope sIsPower) := ⟨rfl, rfl, rfl, by decide +kernel, rfl, by decide +kernel, by decide +kernel⟩
theorem scCheckWidth : FnScope ["row", "thing"] ["row"] (defScope sCheckWidth) := ⟨rfl, rfl, rfl, by decide +kernel, rfl, by decide +kernel, by decide +kernel⟩
theorem scLoomed : FnScope ["looms", "name", "row"] ["looms", "name", "row"] (defScope sLoomed) := ⟨rfl, rfl, rfl, by decide +kernel, rfl, by decide +kernel, by decide +kernel⟩
theorem scDone : FnScope ["looms", "name", "row", "step", "steps", "one", "other", "left", "right"] ["looms", "name", "row"] (defScope sDone) := ⟨rfl, rfl, rfl, by decide +kernel, rfl, by decide +kernel, by decide +kernel⟩
theorem scCalled : FnScope ["looms", "call", "row"] ["looms", "call", "row"] (defScope sCalled) := ⟨rfl, rfl, rfl, by decide +kernel, rfl, by decide +kernel, by decide +kernel⟩
theorem scOverlays : FnScope ["left", "right", "found", "waiting", "way", "one", "other"] ["left", "right"] (defScope sOverlays) := ⟨rfl, rfl, rfl, by decide +kernel, rfl, by decide +kernel, by decide +kernel⟩
theorem scSplits : FnScope ["word", "rows", "place"] ["word"] (defScope sSplits) := ⟨rfl, rfl, rfl, by decide +kernel, rfl, by decide +kernel, by decide +kernel⟩
theorem scLevelInit : FnScope ["self", "steps", "halves", "way", "told", "step", "left", "right", "one", "other"] ["self", "steps", "halves", "way"] (defScope sLevelInit) := ⟨rfl, rfl, rfl, by decide +kernel, rfl, by decide +kernel, by decide +kernel⟩
theorem scLevelStep : FnScope ["self", "step", "pairs", "sides", "one", "two", "pair", "is_flipped"] ["self", "step"] (defScope sLevelStep) := ⟨rfl, rfl, rfl, by decide +kernel, rfl, by decide +kernel, by decide +kernel⟩
theorem scLevelHalf : FnScope ["self", "side", "found"] ["self", "side"] (defScope sLevelHalf) := ⟨rfl, rfl, rfl, by decide +kernel, rfl, by decide +kernel, by decide +kernel⟩
theorem scLevelIsBad : FnScope ["self", "order", "low", "high"] ["self", "order"] (defScope sLevelIsBad) := ⟨rfl, rfl, rfl, by decide +kernel, rfl, by decide +kernel, by decide +kernel⟩
theorem scIsSorted : FnScope ["word", "order", "late"] ["word", "order"] (defScope sIsSorted) := ⟨rfl, rfl, rfl, by decide +kernel, rfl, by decide +kernel, by decide +kernel⟩
theorem scIsWord : FnScope ["thing", "sign"] ["thing"] (defScope sIsWord) := ⟨rfl, rfl, rfl, by decide +kernel, rfl, by decide +kernel, by decide +kernel⟩
theorem scCheckOrder : FnScope ["order"] ["order"] (defScope sCheckOrder) := ⟨rfl, rfl, rfl, by decide +kernel, rfl, by decide +kernel, by decide +kernel⟩
theorem scCheckWords : FnScope ["words", "word"] ["words"] (defScope sCheckWords) := ⟨rfl, rfl, rfl, by decide +kernel, rfl, by decide +kernel, by decide +kernel⟩
theorem scNodeOf : FnScope ["call", "order", "word"] ["call", "order", "word"] (defScope sNodeOf) := ⟨rfl, rfl, rfl, by decide +kernel, rfl, by decide +kernel, by decide +kernel⟩
theorem scStepsOf : FnScope ["looms", "node", "name", "order", "word"] ["looms", "node"] (defScope sStepsOf) := ⟨rfl, rfl, rfl, by decide +kernel, rfl, by decide +kernel, by decide +kernel⟩
theorem scRowsFor : FnScope ["loom", "order", "ways", "found", "level", "side", "call", "word"] ["loom", "order", "ways"] (defScope sRowsFor) := ⟨rfl, rfl, rfl, by decide +kernel, rfl, by decide +kernel, by decide +kernel⟩
theorem scKeptInit : FnScope ["self", "nodes"] ["self", "nodes"] (defScope sKeptInit) := ⟨rfl, rfl, rfl, by decide +kernel, rfl, by decide +kernel, by decide +kernel⟩
theorem scKeptEq : FnScope ["self", "other"] ["self", "other"] (defScope sKeptEq) := ⟨rfl, rfl, rfl, by decide +kernel, rfl, by decide +kernel, by decide +kernel⟩
theorem scKeptBool : FnScope ["self"] ["self"] (defScope sKeptBool) := ⟨rfl, rfl, rfl, by decide +kernel, rfl, by decide +kernel, by decide +kernel⟩
theorem scKeptIsClosed : FnScope ["self", "looms", "rows", "known", "node", "row", "name", "order", "word"] ["self", "looms", "rows"] (defScope sKeptIsClosed) := ⟨rfl, rfl, rfl, by decide +kernel, rfl, by decide +kernel, by decide +kernel⟩
theorem scKeptShows : FnScope ["self", "looms", "name", "words", "order", "word"] ["self", "looms", "name", "words", "order"] (defScope sKeptShows) := ⟨rfl, rfl, rfl, by decide +kernel, rfl, by decide +kernel, by decide +kernel⟩
theorem scBrokenInit : FnScope ["self", "row"] ["self", "row"] (defScope sBrokenInit) := ⟨rfl, rfl, rfl, by decide +kernel, rfl, by decide +kernel, by decide +kernel⟩
theorem scBrokenEq : FnScope ["self", "other"] ["self", "other"] (defScope sBrokenEq) := ⟨rfl, rfl, rfl, by decide +kernel, rfl, by decide +kernel, by decide +kernel⟩
theorem scBrokenBool : FnScope ["self"] ["self"] (defScope sBrokenBool) := ⟨rfl, rfl, rfl, by decide +kernel, rfl, by decide +kernel, by decide +kernel⟩
theorem scBrokenShows : FnScope ["self", "looms", "name", "words", "order", "due", "word"] ["self", "looms", "name", "words", "order"] (defScope sBrokenShows) := ⟨rfl, rfl, rfl, by decide +kernel, rfl, by decide +kernel, by decide +kernel⟩
theorem scHasBlocks : FnScope ["row", "word", "ends", "sign", "late", "place"] ["row", "word"] (defScope sHasBlocks) := ⟨rfl, rfl, rfl, by decide +kernel, rfl, by decide +kernel, by decide +kernel⟩
theorem scCheckBlocks : FnScope ["looms", "name", "words", "order"] ["looms", "name", "words", "order"] (defScope sCheckBlocks) := ⟨rfl, rfl, rfl, by decide +kernel, rfl, by decide +kernel, by decide +kernel⟩
theorem scClosedFrom : FnScope ["looms", "nodes", "found", "waiting", "row", "node"] ["looms", "nodes"] (defScope sClosedFrom) := ⟨rfl, rfl, rfl, by decide +kernel, rfl, by decide +kernel, by decide +kernel⟩
theorem scRowAt : FnScope ["level", "lengths", "turned", "first", "second", "left", "right", "is_within", "sizes", "late", "many", "one", "other", "sign"] ["level", "lengths"] (defScope sRowAt) := ⟨rfl, rfl, rfl, by decide +kernel, rfl, by decide +kernel, by decide +kernel⟩
theorem scBuilt : FnScope ["path", "level", "half", "row", "sizes", "one", "side", "is_turned", "lengths"] ["path", "level", "half"] (defScope sBuilt) := ⟨rfl, rfl, rfl, by decide +kernel, rfl, by decide +kernel, by decide +kernel⟩
theorem scSearchInit : FnScope ["self", "looms"] ["self", "looms"] (defScope sSearchInit) := ⟨rfl, rfl, rfl, by decide +kernel, rfl, by decide +kernel, by decide +kernel⟩
theorem scSearchFound : FnScope ["self", "rows", "size", "waiting", "half", "known", "late", "path", "level", "side", "node", "is_turned", "row"] ["self", "rows", "size"] (defScope sSearchFound) := ⟨rfl, rfl, rfl, by decide +kernel, rfl, by decide +kernel, by decide +kernel⟩
theorem scLeastRow : FnScope ["looms", "rows", "size", "found"] ["looms", "rows"] (defScope sLeastRow) := ⟨rfl, rfl, rfl, by decide +kernel, rfl, by decide +kernel, by decide +kernel⟩
theorem scFirstSteps : FnScope ["looms", "name", "words", "order", "word", "row"] ["looms", "name", "words", "order"] (defScope sFirstSteps) := ⟨rfl, rfl, rfl, by decide +kernel, rfl, by decide +kernel, by decide +kernel⟩
theorem scJudgeBlocks : FnScope ["looms", "name", "words", "order", "found", "word"] ["looms", "name", "words", "order"] (defScope sJudgeBlocks) := ⟨rfl, rfl, rfl, by decide +kernel, rfl, by decide +kernel, by decide +kernel⟩
theorem scLawCellAt : FnScope ["_law_script", "_law_k"] ["_law_script", "_law_k"] (defScope sLawCellAt) := ⟨rfl, rfl, rfl, by decide +kernel, rfl, by decide +kernel, by decide +kernel⟩
theorem scLawDraw : FnScope ["_law_cell", "_law_k", "_law_bound", "_law_primes"] ["_law_cell", "_law_k", "_law_bound"] (defScope sLawDraw) := ⟨rfl, rfl, rfl, by decide +kernel, rfl, by decide +kernel, by decide +kernel⟩
theorem scLawNumber : FnScope ["_law_cell", "_law_k", "_law_bound", "_law_power", "_law_lap", "_law_remains", "_law_small"] ["_law_cell", "_law_k", "_law_bound"] (defScope sLawNumber) := ⟨rfl, rfl, rfl, by decide +kernel, rfl, by decide +kernel, by decide +kernel⟩
theorem scLawNext : FnScope ["_law_draw_here", "_law_bound", "_law_at", "_law_cell"] ["_law_draw_here", "_law_bound"] (defScope sLawNext) := ⟨rfl, rfl, rfl, by decide +kernel, rfl, by decide +kernel, by decide +kernel⟩
theorem scLawPick : FnScope ["_law_draw_here", "_law_things"] ["_law_draw_here", "_law_things"] (defScope sLawPick) := ⟨rfl, rfl, rfl, by decide +kernel, rfl, by decide +kernel, by decide +kernel⟩
theorem scLawSays : FnScope ["_law_told", "_law_due"] ["_law_told", "_law_due"] (defScope sLawSays) := ⟨rfl, rfl, rfl, by decide +kernel, rfl, by decide +kernel, by decide +kernel⟩
theorem scLawStep : FnScope ["_law_draw_here", "_law_kind"] ["_law_draw_here"] (defScope sLawStep) := ⟨rfl, rfl, rfl, by decide +kernel, rfl, by decide +kernel, by decide +kernel⟩
theorem scLawLoom : FnScope ["_law_draw_here", "_law_names", "_law_steps", "_law_calls", "_law_turn"] ["_law_draw_here", "_law_names"] (defScope sLawLoom) := ⟨rfl, rfl, rfl, by decide +kernel, rfl, by decide +kernel, by decide +kernel⟩
theorem scLawHalves : FnScope ["_law_step_here", "_law_left", "_law_right", "_law_at", "_law_half", "_law_whole", "_law_other", "_law_low", "_law_high"] ["_law_step_here", "_law_left", "_law_right"] (defScope sLawHalves) := ⟨rfl, rfl, rfl, by decide +kernel, rfl, by decide +kernel, by decide +kernel⟩
theorem scLawDone : FnScope ["_law_looms", "_law_name", "_law_row", "_law_step_here", "_law_found", "_law_left", "_law_right", "_law_half", "_law_call"] ["_law_looms", "_law_name", "_law_row"] (defScope sLawDone) := ⟨rfl, rfl, rfl, by decide +kernel, rfl, by decide +kernel, by decide +kernel⟩
theorem scLawSpread : FnScope ["_law_word", "_law_width", "_law_found", "_law_size", "_law_row"] ["_law_word", "_law_width"] (defScope sLawSpread) := ⟨rfl, rfl, rfl, by decide +kernel, rfl, by decide +kernel, by decide +kernel⟩
theorem scLaw : FnScope ["_law_script", "_law_draw_here", "_law_names", "_law_looms", "_law_words", "_law_order", "_law_things", "e", "_law_least", "_law_width", "_law_late", "_law_told", "_law_word", "_law_less", "_law_row", "_law_lap", "_law_turn", "_law_name", "_law_node"] ["_law_script"] (defScope sLaw) := ⟨rfl, rfl, rfl, by decide +kernel, rfl, by decide +kernel, by decide +kernel⟩
end K6
set_option Elab.async false
set_option linter.all false
set_option maxRecDepth 100000
namespace K6
open PySem PySem.Spec PyProof.Rows L2

/-! ### heaps -/
section
variable {H H' H0 : Hp} {p l b : Addr} {o : HO} {ls : List Addr} {K : PySem.W.Frag} {a : Addr} {xs : List V}
theorem same_new (h : H p = none) : Same H (upd H p o) := fun b u e => by rw [upd_ne (ne_of_none e h)]; exact e
/-- the heap without some addresses -/
def drp (ls : List Addr) (H : Hp) : Hp := fun b => if b ∈ ls then none else H b
theorem drp_le : Same (drp ls H) H := fun b u e => by
  unfold drp at e
  split at e
  · cases e
  · exact e
theorem drp_not (h : b ∉ ls) : drp ls H b = H b := by unfold drp; rw [if_neg h]
theorem drp_in (h : b ∈ ls) : drp ls H b = none := by unfold drp; rw [if_pos h]
theorem drp_same (h : Same H H') : Same (drp ls H) (drp ls H') := fun b u e => by
  unfold drp at e ⊢
  split at e
  · cases e
  · rename_i q
    rw [if_neg q]
    exact h b u e
theorem drp_new (h : H p = none) : Same (drp ls H) (drp ls (upd H p o)) := drp_same (same_new h)
theorem drp_upd (h : l ∈ ls) : drp ls (upd H l o) = drp ls H := by
  funext b
  unfold drp
  by_cases q : b ∈ ls
  · rw [if_pos q, if_pos q]
  · rw [if_neg q, if_neg q, upd_ne (fun e => q (by rw [e]; exact h))]
theorem same_drp (h : Same H0 H) (hn : ∀ l ∈ ls, H0 l = none) : Same H0 (drp ls H) := fun b u e => by
  rw [drp_not (fun q => by rw [hn b q] at e; cases e)]
  exact h b u e
theorem drp_some (h : drp ls H b = some o) : H b = some o := drp_le b o h
theorem drp_none (h : H b = none) : drp ls H b = none := by
  unfold drp
  split
  · rfl
  · exact h
theorem tupS (e : Same H H') (h : SqT K H a xs) : SqT K H' a xs := by
  rcases h with (h | ⟨o, h⟩) | h
  · exact .inl (.inl (e _ _ h))
  · exact .inl (.inr ⟨o, e _ _ h⟩)
  · exact .inr h
end

end K6
namespace L2
open PySem
/-! ### data -/
section
variable {K : PySem.W.Frag} {H H' : Hp}
mutual
theorem Dp.mono (e : Same H H') : ∀ {v : V} {d : PyData}, Dp K H v d → Dp K H' v d
  | _, _, .non => .non
  | _, _, .bl b => .bl b
  | _, _, .int i => .int i
  | _, _, .str x => .str x
  | _, _, .lst h k => .lst (e.seq h) (DpAll.mono e k)
  | _, _, .tup h k => .tup (K6.tupS e h) (DpAll.mono e k)
theorem DpAll.mono (e : Same H H') : ∀ {vs : List V} {ds : List PyData}, DpAll K H vs ds → DpAll K H' vs ds
  | _, _, .nil => .nil
  | _, _, .cons h k => .cons (Dp.mono e h) (DpAll.mono e k)
end
theorem DpAll.length : ∀ {vs : List V} {ds : List PyData}, DpAll K H vs ds → vs.length = ds.length
  | _, _, .nil => rfl
  | _, _, .cons _ k => by simp [DpAll.length k]
theorem DpAll.get : ∀ {vs : List V} {ds : List PyData} {i : Nat} {d : PyData}, DpAll K H vs ds → ds[i]? = some d → ∃ v, vs[i]? = some v ∧ Dp K H v d
  | _, _, _, _, .nil, e => by simp at e
  | _, _, 0, _, .cons h _, e => by simp at e; subst e; exact ⟨_, rfl, h⟩
  | _, _, i + 1, _, .cons _ k, e => by
    obtain ⟨v, a, b⟩ := DpAll.get (i := i) k (by simpa using e)
    exact ⟨v, by simpa using a, b⟩
theorem DpAll.getV : ∀ {vs : List V} {ds : List PyData} {i : Nat} {v : V}, DpAll K H vs ds → vs[i]? = some v → ∃ d, ds[i]? = some d ∧ Dp K H v d
  | _, _, _, _, .nil, e => by simp at e
  | _, _, 0, _, .cons h _, e => by simp at e; subst e; exact ⟨_, rfl, h⟩
  | _, _, i + 1, _, .cons _ k, e => by
    obtain ⟨v, a, b⟩ := DpAll.getV (i := i) k (by simpa using e)
    exact ⟨v, by simpa using a, b⟩
theorem DpAll.append : ∀ {vs us : List V} {ds es : List PyData}, DpAll K H vs ds → DpAll K H us es → DpAll K H (vs ++ us) (ds ++ es)
  | _, _, _, _, .nil, k => k
  | _, _, _, _, .cons h q, k => .cons h (DpAll.append q k)
theorem DpAll.snoc {vs : List V} {ds : List PyData} {v : V} {d : PyData} (h : DpAll K H vs ds) (k : Dp K H v d) : DpAll K H (vs ++ [v]) (ds ++ [d]) := h.append (.cons k .nil)
theorem DpAll.reverse : ∀ {vs : List V} {ds : List PyData}, DpAll K H vs ds → DpAll K H vs.reverse ds.reverse
  | _, _, .nil => .nil
  | _, _, .cons h k => by rw [List.reverse_cons, List.reverse_cons]; exact (DpAll.reverse k).snoc h
theorem DpAll.take : ∀ {vs : List V} {ds : List PyData} (n : Nat), DpAll K H vs ds → DpAll K H (vs.take n) (ds.take n)
  | _, _, 0, _ => by simp; exact .nil
  | _, _, n + 1, .nil => .nil
  | _, _, n + 1, .cons h k => .cons h (DpAll.take n k)
theorem DpAll.drop : ∀ {vs : List V} {ds : List PyData} (n : Nat), DpAll K H vs ds → DpAll K H (vs.drop n) (ds.drop n)
  | _, _, 0, h => h
  | _, _, n + 1, .nil => .nil
  | _, _, n + 1, .cons _ k => DpAll.drop n k
theorem DpAll.dropLast : ∀ {vs : List V} {ds : List PyData}, DpAll K H vs ds → DpAll K H vs.dropLast ds.dropLast := fun {vs ds} h => by
  rw [List.dropLast_eq_take, List.dropLast_eq_take, h.length]
  exact h.take _
theorem DpAll.ints : ∀ l : List Int, DpAll K H (l.map V.int) (l.map .int)
  | [] => .nil
  | a :: l => .cons (.int a) (DpAll.ints l)
theorem DpAll.of_ints : ∀ {vs : List V} {l : List Int}, DpAll K H vs (l.map .int) → vs = l.map V.int
  | _, [], h => by cases h; rfl
  | _, a :: l, h => by
    cases h with
    | cons h k => cases h; rw [DpAll.of_ints k]; rfl
theorem DpAll.bools : ∀ l : List Bool, DpAll K H (l.map V.bl) (l.map .bool)
  | [] => .nil
  | a :: l => .cons (.bl a) (DpAll.bools l)
theorem DpAll.of_bools : ∀ {vs : List V} {l : List Bool}, DpAll K H vs (l.map .bool) → vs = l.map V.bl
  | _, [], h => by cases h; rfl
  | _, a :: l, h => by
    cases h with
    | cons h k => cases h; rw [DpAll.of_bools k]; rfl
theorem Dp.list {v : V} {ds : List PyData} (h : Dp K H v (.list ds)) : ∃ a xs, v = .ref a ∧ SqL K H a xs ∧ DpAll K H xs ds := by
  cases h with
  | lst h k => exact ⟨_, _, rfl, h, k⟩
theorem Dp.tuple {v : V} {ds : List PyData} (h : Dp K H v (.tuple ds)) : ∃ a xs, v = .ref a ∧ SqT K H a xs ∧ DpAll K H xs ds := by
  cases h with
  | tup h k => exact ⟨_, _, rfl, h, k⟩
theorem Dp.isInt {v : V} {i : Int} (h : Dp K H v (.int i)) : v = .int i := by cases h; rfl
theorem Dp.isBool {v : V} {i : Bool} (h : Dp K H v (.bool i)) : v = .bl i := by cases h; rfl
theorem Dp.isStr {v : V} {i : Str} (h : Dp K H v (.str i)) : v = .str i := by cases h; rfl
theorem Dp.isNone {v : V} (h : Dp K H v .none) : v = .non := by cases h; rfl
end
end L2
namespace K6
open PySem PySem.Spec PyProof.Rows L2
section
variable {K : PySem.W.Frag} {H H' : Hp}
/-- a tracked list of data -/
def Lp (K : PySem.W.Frag) (H : Hp) (v : V) (ds : List PyData) : Prop := ∃ a xs, v = .ref a ∧ H a = some (.lst xs) ∧ DpAll K H xs ds
theorem Lp.mono (e : Same H H') {v : V} {ds : List PyData} (h : Lp K H v ds) : Lp K H' v ds := by
  obtain ⟨a, xs, rfl, h1, h2⟩ := h
  exact ⟨a, xs, rfl, e _ _ h1, h2.mono e⟩
theorem Lp.dp {v : V} {ds : List PyData} (h : Lp K H v ds) : Dp K H v (.list ds) := by
  obtain ⟨a, xs, rfl, h1, h2⟩ := h
  exact .lst (SqL.of h1) h2
end
/-! ### what a def hands back -/
/-- v, the heap grown -/
def Ret (H : Hp) (Q : VK) (v : V) : Prop := ∀ H', Same H H' → Q v H'
/-- data, the heap grown -/
def RetD (K : PySem.W.Frag) (H : Hp) (Q : VK) (d : PyData) : Prop := ∀ H' v, Same H H' → Dp K H' v d → Q v H'
def RetL (K : PySem.W.Frag) (H : Hp) (Q : VK) (ds : List PyData) : Prop := ∀ H' v, Same H H' → Lp K H' v ds → Q v H'

/-! ### the data of the program -/
abbrev intsD (l : List Int) : List PyData := l.map .int
abbrev wD (w : List Int) : PyData := .tuple (w.map .int)
def nmS : Nat → Str
  | 0 => "a"
  | 1 => "b"
  | _ => "c"
def ordS (up : Bool) : Str := if up then "up" else "down"
def sdS : Sd → Str
  | .left => "left"
  | .right => "right"
  | .both => "both"
  | .all => "all"
def kindS (x : Bool) : Str := if x then "cross" else "mirror"
def stpL : Stp → List Str
  | .cmp x up => [kindS x, ordS up]
  | .swap => ["swap"]
  | .flip s => ["flip", sdS s]
def stpD (s : Stp) : PyData := .tuple ((stpL s).map .str)
def callD : Option (Nat × Bool) → PyData
  | none => .none
  | some c => .tuple [.str (nmS c.1), .bool c.2]
def loomD (l : Loom) : PyData := .tuple [.tuple (l.steps.map stpD), callD l.one, callD l.two]
def nodeD (n : Node) : PyData := .tuple [.str (nmS n.nm), .str (ordS n.up), wD n.w]
def wayD (w : List (Nat × Nat)) : PyData := .tuple (w.map fun p => .tuple [.int p.1, .int p.2])
/-- looms that the law can draw -/
structure LOk (L : Looms) : Prop where
  pos : 0 < L.length
  three : L.length ≤ 3
  calls : ∀ l ∈ L, ∀ s c, l.call s = some c → c.1 < L.length
  steps : ∀ l ∈ L, l.steps.length ≤ 3
/-- the dict of looms -/
def LoomsAt (K : PySem.W.Frag) (H : Hp) (v : V) (L : Looms) : Prop := ∃ a kvs, v = .ref a ∧ H a = some (.dK kvs) ∧ kvs.map Prod.fst = (List.range L.length).map (fun i => (Sum.inr (nmS i) : L2.Key)) ∧ DpAll K H (kvs.map Prod.snd) (L.map loomD)
theorem LoomsAt.mono {K : PySem.W.Frag} {H H' : Hp} {v : V} {L : Looms} (e : Same H H') (h : LoomsAt K H v L) : LoomsAt K H' v L := by
  obtain ⟨a, kvs, rfl, h1, h2, h3⟩ := h
  exact ⟨a, kvs, rfl, e _ _ h1, h2, h3.mono e⟩

/-! ### defs as they stand -/
structure Fn (K : PySem.W.Frag) (x qual : Str) (st : Stmt) (f : Addr) (fd : FuncData) : Prop where
  ex : ∃ (oc : Value) (od : Option Addr) (dV kV doc pm : Value) (an : Option Addr) (cdv ct : Value) (osl : Array (Option Value)),
    fd = PySem.W.fnOf x qual (defArgs st) (defBody st) (defScope st) dV kV doc pm an cdv ct ∧ K.lookup f = some ⟨oc, od, .func fd, osl⟩ ∧ PySem.W.codeIn K cdv qual = true
  kp : PySem.W.keepIn K (.ref f) = true
section
variable {P : Program} {w : World} {K : PySem.W.Frag} {mg : Str → Option Value} {base : Heap}
theorem Fn.ok {x qual : Str} {st : Stmt} {f : Addr} {fd : FuncData} {N ps : List Str} {k : Nat} {sp : Sp} (F : Fn K x qual st f fd) (S : FnScope N ps (defScope st)) (len : ∀ vs H Q E, sp vs H Q E → vs.length = ps.length)
    (hbody : ∀ (cdv : Value) (A : Around) (outer : List Env) (s : Shared) (H : Hp) (vs : List V) (Q : VK) (E : XK), Room k (A.deeper (envOfC qual (defScope st) s.heap.objs.size f cdv)) → sp vs H Q E →
      ∃ t, PSs (cxOf CX0 P w K mg base N qual (defScope st) f cdv A outer s H E).nox (defBody st) t ∧ t { nx := fun _ H' => Q .non H', rt := Q } (start N vs) H) : FnOk P w K mg base CX0 (k + 1) f fd ps sp := by
  obtain ⟨oc, od, dV, kV, doc, pm, an, cdv, ct, osl, rfl, lk, hcd⟩ := F.ex
  refine fn_of lk hcd S len fun A outer s H vs Q E hr hsp => ?_
  obtain ⟨t, h, q⟩ := hbody cdv A outer s H vs Q E hr hsp
  exact ⟨t, h.nox, q⟩
theorem Fn.okX {x qual : Str} {st : Stmt} {f : Addr} {fd : FuncData} {N ps : List Str} {k : Nat} {sp : Sp} (F : Fn K x qual st f fd) (S : FnScope N ps (defScope st)) (len : ∀ vs H Q E, sp vs H Q E → vs.length = ps.length)
    (hbody : ∀ (cdv : Value) (A : Around) (outer : List Env) (s : Shared) (H : Hp) (vs : List V) (Q : VK) (E : XK), Room k (A.deeper (envOfC qual (defScope st) s.heap.objs.size f cdv)) → sp vs H Q E →
      ∃ t, PSs (cxOf (L2.CX P w) P w K mg base N qual (defScope st) f cdv A outer s H E) (defBody st) t ∧ t { nx := fun _ H' => Q .non H', rt := Q } (start N vs) H) : FnOk P w K mg base (L2.CX P w) (k + 1) f fd ps sp := by
  obtain ⟨oc, od, dV, kV, doc, pm, an, cdv, ct, osl, rfl, lk, hcd⟩ := F.ex
  exact fn_of lk hcd S len fun A outer s H vs Q E hr hsp => hbody cdv A outer s H vs Q E hr hsp
end
structure Def where
  f : Addr
  fd : FuncData
/-- a def of the top -/
structure DefOk (K : PySem.W.Frag) (mg : Str → Option Value) (x : Str) (st : Stmt) (ps : List Str) (d : Def) : Prop where
  F : Fn K x x st d.f d.fd
  B : Binds K d.fd ps []
  m : mg x = some (.ref d.f)
/-- a method -/
structure MetOk (K : PySem.W.Frag) (C : Addr) (x qual : Str) (st : Stmt) (ps : List Str) (d : Def) : Prop where
  F : Fn K x qual st d.f d.fd
  B : Binds K d.fd ps []
  M : Meth K C x d.f
/-- a class with its __init__ -/
structure IniOk (K : PySem.W.Frag) (mg : Str → Option Value) (C : Addr) (x qual : Str) (st : Stmt) (ps : List Str) (d : Def) : Prop where
  F : Fn K "__init__" qual st d.f d.fd
  B : Binds K d.fd ps []
  M : Mk K C d.f
  m : mg x = some (.ref C)
structure Ads where
  d : Nat → Def
  level : Addr
  kept : Addr
  broken : Addr
  search : Addr
  outside : Addr
  orders : Addr
  sides : Addr
  other : Addr
abbrev levelF : List Str := ["halves", "way", "is_same", "left", "right", "turned"]
structure Txt (K : PySem.W.Frag) (mg : Str → Option Value) (D : Ads) : Prop where
  isinstance : mg "isinstance" = none
  int : mg "int" = none
  bool : mg "bool" = none
  str : mg "str" = none
  tuple : mg "tuple" = none
  list : mg "list" = none
  dict : mg "dict" = none
  set : mg "set" = none
  len : mg "len" = none
  all : mg "all" = none
  any : mg "any" = none
  min : mg "min" = none
  max : mg "max" = none
  sorted : mg "sorted" = none
  zip : mg "zip" = none
  range : mg "range" = none
  enumerate : mg "enumerate" = none
  ordersM : mg "ORDERS" = some (.ref D.orders)
  ordersT : ∀ H, SqT K H D.orders [.str "up", .str "down"]
  sidesM : mg "SIDES" = some (.ref D.sides)
  sidesT : ∀ H, SqT K H D.sides [.str "left", .str "right", .str "both", .str "all"]
  mostLooms : ∃ t, mg "MOST_LOOMS" = some (.int 8 t)
  mostSteps : ∃ t, mg "MOST_STEPS" = some (.int 12 t)
  mostPieces : ∃ t, mg "MOST_PIECES" = some (.int 6 t)
  letters : ∃ t, mg "LETTERS" = some (.str "abcdefghijklmnopqrstuvwxyz" t)
  otherM : mg "OTHER" = some (.ref D.other)
  w7 : DefOk K mg "is_whole" sIsWhole ["thing"] (D.d 7)
  w8 : DefOk K mg "is_sign" sIsSign ["thing"] (D.d 8)
  w9 : DefOk K mg "check_signs" sCheckSigns ["row"] (D.d 9)
  w16 : DefOk K mg "is_title" sIsTitle ["thing"] (D.d 16)
  w17 : DefOk K mg "is_step" sIsStep ["thing"] (D.d 17)
  w18 : DefOk K mg "is_call" sIsCall ["thing", "looms"] (D.d 18)
  w19 : DefOk K mg "is_loom" sIsLoom ["thing", "looms"] (D.d 19)
  w20 : DefOk K mg "check_looms" sCheckLooms ["looms"] (D.d 20)
  w21 : DefOk K mg "check_name" sCheckName ["looms", "name"] (D.d 21)
  w22 : DefOk K mg "relations" sRelations ["steps"] (D.d 22)
  w23 : DefOk K mg "check_inside" sCheckInside ["looms"] (D.d 23)
  w24 : DefOk K mg "order_pair" sOrderPair ["one", "other", "order"] (D.d 24)
  w25 : DefOk K mg "stepped" sStepped ["step", "left", "right"] (D.d 25)
  w26 : DefOk K mg "is_power" sIsPower ["number"] (D.d 26)
  w27 : DefOk K mg "check_width" sCheckWidth ["row"] (D.d 27)
  w28 : DefOk K mg "loomed" sLoomed ["looms", "name", "row"] (D.d 28)
  w29 : DefOk K mg "done" sDone ["looms", "name", "row"] (D.d 29)
  w30 : DefOk K mg "called" sCalled ["looms", "call", "row"] (D.d 30)
  w32 : DefOk K mg "overlays" sOverlays ["left", "right"] (D.d 32)
  w33 : DefOk K mg "splits" sSplits ["word"] (D.d 33)
  w35 : DefOk K mg "levels" sLevels ["steps", "word"] (D.d 35)
  w39 : DefOk K mg "is_sorted" sIsSorted ["word", "order"] (D.d 39)
  w40 : DefOk K mg "is_word" sIsWord ["thing"] (D.d 40)
  w41 : DefOk K mg "check_order" sCheckOrder ["order"] (D.d 41)
  w42 : DefOk K mg "check_words" sCheckWords ["words"] (D.d 42)
  w43 : DefOk K mg "node_of" sNodeOf ["call", "order", "word"] (D.d 43)
  w44 : DefOk K mg "steps_of" sStepsOf ["looms", "node"] (D.d 44)
  w45 : DefOk K mg "rows_for" sRowsFor ["loom", "order", "ways"] (D.d 45)
  w48 : DefOk K mg "has_blocks" sHasBlocks ["row", "word"] (D.d 48)
  w49 : DefOk K mg "check_blocks" sCheckBlocks ["looms", "name", "words", "order"] (D.d 49)
  w50 : DefOk K mg "closed_from" sClosedFrom ["looms", "nodes"] (D.d 50)
  w51 : DefOk K mg "row_at" sRowAt ["level", "lengths"] (D.d 51)
  w52 : DefOk K mg "built" sBuilt ["path", "level", "half"] (D.d 52)
  w54 : DefOk K mg "least_row" sLeastRow ["looms", "rows"] (D.d 54)
  w55 : DefOk K mg "first_steps" sFirstSteps ["looms", "name", "words", "order"] (D.d 55)
  w56 : DefOk K mg "judge_blocks" sJudgeBlocks ["looms", "name", "words", "order"] (D.d 56)
  w58 : DefOk K mg "_law_cell_at" sLawCellAt ["_law_script", "_law_k"] (D.d 58)
  w59 : DefOk K mg "_law_draw" sLawDraw ["_law_cell", "_law_k", "_law_bound"] (D.d 59)
  w60 : DefOk K mg "_law_number" sLawNumber ["_law_cell", "_law_k", "_law_bound"] (D.d 60)
  w61 : DefOk K mg "_law_next" sLawNext ["_law_draw_here", "_law_bound"] (D.d 61)
  w62 : DefOk K mg "_law_pick" sLawPick ["_law_draw_here", "_law_things"] (D.d 62)
  w63 : DefOk K mg "_law_says" sLawSays ["_law_told", "_law_due"] (D.d 63)
  w64 : DefOk K mg "_law_step" sLawStep ["_law_draw_here"] (D.d 64)
  w65 : DefOk K mg "_law_loom" sLawLoom ["_law_draw_here", "_law_names"] (D.d 65)
  w66 : DefOk K mg "_law_halves" sLawHalves ["_law_step_here", "_law_left", "_law_right"] (D.d 66)
  w67 : DefOk K mg "_law_done" sLawDone ["_law_looms", "_law_name", "_law_row"] (D.d 67)
  w68 : DefOk K mg "_law_spread" sLawSpread ["_law_word", "_law_width"] (D.d 68)
  w340 : IniOk K mg D.level "Level" "Level.__init__" sLevelInit ["self", "steps", "halves", "way"] (D.d 340)
  w341 : MetOk K D.level "step" "Level.step" sLevelStep ["self", "step"] (D.d 341)
  w342 : MetOk K D.level "half" "Level.half" sLevelHalf ["self", "side"] (D.d 342)
  w343 : MetOk K D.level "is_bad" "Level.is_bad" sLevelIsBad ["self", "order"] (D.d 343)
  levelC : Cls K D.level
  levelN : ∀ f ∈ levelF, NoAttr K D.level f
  w460 : IniOk K mg D.kept "Kept" "Kept.__init__" sKeptInit ["self", "nodes"] (D.d 460)
  w462 : MetOk K D.kept "__bool__" "Kept.__bool__" sKeptBool ["self"] (D.d 462)
  w463 : MetOk K D.kept "is_closed" "Kept.is_closed" sKeptIsClosed ["self", "looms", "rows"] (D.d 463)
  w464 : MetOk K D.kept "shows" "Kept.shows" sKeptShows ["self", "looms", "name", "words", "order"] (D.d 464)
  keptC : Cls K D.kept
  keptN : NoAttr K D.kept "nodes"
  w470 : IniOk K mg D.broken "Broken" "Broken.__init__" sBrokenInit ["self", "row"] (D.d 470)
  w472 : MetOk K D.broken "__bool__" "Broken.__bool__" sBrokenBool ["self"] (D.d 472)
  w473 : MetOk K D.broken "shows" "Broken.shows" sBrokenShows ["self", "looms", "name", "words", "order"] (D.d 473)
  brokenC : Cls K D.broken
  brokenN : NoAttr K D.broken "row"
  w530 : IniOk K mg D.search "Search" "Search.__init__" sSearchInit ["self", "looms"] (D.d 530)
  w531 : MetOk K D.search "found" "Search.found" sSearchFound ["self", "rows", "size"] (D.d 531)
  searchC : Cls K D.search
  searchN : NoAttr K D.search "looms"
end K6
set_option Elab.async false
set_option linter.all false
set_option maxRecDepth 100000
set_option maxHeartbeats 1000000
namespace K6
open PySem PySem.Spec PyProof.Rows L2

/-! ### what is new since H, or cannot change -/
def isTup : HO → Bool
  | .tup _ => true
  | .frz _ (.tup _) => true
  | _ => false
def fsh (H H' : Hp) : Hp := fun b => match H b with
  | some o => if isTup o then H' b else none
  | none => H' b
section
variable {H H' H0 H1 H2 : Hp} {p l b D : Addr} {o : HO} {ls : List Addr} {K : PySem.W.Frag} {a : Addr} {xs : List V}
theorem fsh_none (h : H b = none) : fsh H H' b = H' b := by unfold fsh; rw [h]
theorem fsh_tup (h : H b = some o) (t : isTup o = true) : fsh H H' b = H' b := by unfold fsh; rw [h]; simp [t]
theorem fsh_old (h : H b = some o) (t : isTup o = false) : fsh H H' b = none := by unfold fsh; rw [h]; simp [t]
theorem fsh_le : Same (fsh H H') H' := fun b u e => by
  unfold fsh at e
  split at e
  · split at e
    · exact e
    · cases e
  · exact e
theorem fsh_mono (h : Same H1 H2) : Same (fsh H H1) (fsh H H2) := fun b u e => by
  unfold fsh at e ⊢
  split at e
  · split at e
    · rename_i o q t
      simp only [t, if_true]
      exact h b u e
    · cases e
  · exact h b u e
/-- new since later is new since earlier -/
theorem fsh_trans (h : Same H H1) : Same (fsh H1 H2) (fsh H H2) := fun b u e => by
  cases q : H b with
  | none =>
    rw [fsh_none q]
    exact fsh_le b u e
  | some o =>
    have q1 := h b o q
    cases t : isTup o with
    | true => rw [fsh_tup q t]; exact fsh_le b u e
    | false => rw [fsh_old q1 t] at e; cases e
theorem fsh_drp (h : ∀ l ∈ ls, ∃ o, H l = some o ∧ isTup o = false) : Same (fsh H H') (drp ls (fsh H H')) := fun b u e => by
  by_cases q : b ∈ ls
  · obtain ⟨o, h1, h2⟩ := h b q
    rw [fsh_old h1 h2] at e
    cases e
  · rw [drp_not q]
    exact e
/-- new since H, without the lists that still grow -/
def own (ls : List Addr) (H H' : Hp) : Hp := drp ls (fsh H H')
theorem own_le : Same (own ls H H') H' := drp_le.trans fsh_le
theorem own_same (h : Same H1 H2) : Same (own ls H H1) (own ls H H2) := drp_same (fsh_mono h)
theorem own_new (h : H1 p = none) : Same (own ls H H1) (own ls H (upd H1 p o)) := own_same (same_new h)
theorem own_upd (h : l ∈ ls) : own ls H (upd H1 l o) = own ls H H1 := by
  funext b
  unfold own drp
  by_cases q : b ∈ ls
  · rw [if_pos q, if_pos q]
  · rw [if_neg q, if_neg q]
    have e : b ≠ l := fun e => q (by rw [e]; exact h)
    unfold fsh
    rw [upd_ne e]
theorem own_fsh (s : Same H H1) (h : ∀ l ∈ ls, ∃ o, H1 l = some o ∧ isTup o = false) : Same (fsh H1 H2) (own ls H H2) := (fsh_drp h).trans (drp_same (fsh_trans s))
theorem own_nil : own [] H H1 = fsh H H1 := by
  funext b
  unfold own drp
  simp
theorem own_sub {ms : List Addr} (h : ∀ x ∈ ls, x ∈ ms) : Same (own ms H H1) (own ls H H1) := fun b u e => by
  by_cases q : b ∈ ms
  · unfold own at e; rw [drp_in q] at e; cases e
  · unfold own at e ⊢
    rw [drp_not q] at e
    rw [drp_not (fun z => q (h b z))]
    exact e
theorem own_end {ms : List Addr} : Same (own ms H H1) (fsh H H1) := drp_le
theorem own_get (h0 : H p = none) (h : H1 p = some o) (hp : p ∉ ls) : own ls H H1 p = some o := by
  unfold own
  rw [drp_not hp, fsh_none h0]
  exact h
theorem same_upd_new (h0 : Same H H1) (hp : H p = none) : Same H (upd H1 p o) := fun b u e => by
  rw [upd_ne (ne_of_none e hp)]
  exact h0 b u e
end
/-! ### data without lists -/
mutual
def noL : PyData → Bool
  | .none => true
  | .bool _ => true
  | .int _ => true
  | .str _ => true
  | .list _ => false
  | .tuple ds => noLs ds
  | .dict _ => false
def noLs : List PyData → Bool
  | [] => true
  | d :: ds => noL d && noLs ds
end
theorem noLs_all : ∀ {ds : List PyData}, (∀ d ∈ ds, noL d = true) → noLs ds = true
  | [], _ => rfl
  | d :: ds, h => by
    rw [noLs, h d List.mem_cons_self, noLs_all fun e he => h e (List.mem_cons_of_mem _ he)]
    rfl
theorem noLs_map {α : Type} {f : α → PyData} {l : List α} (h : ∀ a, noL (f a) = true) : noLs (l.map f) = true := noLs_all fun d hd => by
  obtain ⟨a, _, rfl⟩ := List.mem_map.mp hd
  exact h a
section
variable {K : PySem.W.Frag} {H H' : Hp} {ls : List Addr}
theorem tup_own {a : Addr} {xs : List V} (s : Same H H') (hl : ∀ l ∈ ls, ∃ o, H' l = some o ∧ isTup o = false) (h : SqT K H' a xs) : SqT K (own ls H H') a xs := by
  have key : ∀ o, H' a = some o → isTup o = true → own ls H H' a = some o := fun o e t => by
    have h1 : a ∉ ls := fun q => by
      obtain ⟨u, e1, e2⟩ := hl a q
      rw [e] at e1; cases e1; rw [t] at e2; cases e2
    unfold own
    rw [drp_not h1]
    cases q : H a with
    | none => rw [fsh_none q]; exact e
    | some u =>
      have := s a u q
      rw [e] at this
      cases this
      rw [fsh_tup q t]; exact e
  rcases h with (h | ⟨o, h⟩) | h
  · exact .inl (.inl (key _ h rfl))
  · exact .inl (.inr ⟨o, key _ h rfl⟩)
  · exact .inr h
mutual
theorem dp_own (s : Same H H') (hl : ∀ l ∈ ls, ∃ o, H' l = some o ∧ isTup o = false) : ∀ {v : V} {d : PyData}, noL d = true → Dp K H' v d → Dp K (own ls H H') v d
  | _, _, _, .non => .non
  | _, _, _, .bl b => .bl b
  | _, _, _, .int i => .int i
  | _, _, _, .str x => .str x
  | _, _, n, .lst _ _ => by simp [noL] at n
  | _, _, n, .tup h k => .tup (tup_own s hl h) (dpAll_own s hl (by simpa [noL] using n) k)
theorem dpAll_own (s : Same H H') (hl : ∀ l ∈ ls, ∃ o, H' l = some o ∧ isTup o = false) : ∀ {vs : List V} {ds : List PyData}, noLs ds = true → DpAll K H' vs ds → DpAll K (own ls H H') vs ds
  | _, _, _, .nil => .nil
  | _, _, n, .cons h k => .cons (dp_own s hl (by rw [noLs, Bool.and_eq_true] at n; exact n.1) h) (dpAll_own s hl (by rw [noLs, Bool.and_eq_true] at n; exact n.2) k)
end
theorem dp_fsh (s : Same H H') {v : V} {d : PyData} (n : noL d = true) (h : Dp K H' v d) : Dp K (fsh H H') v d := by
  have := dp_own (ls := []) s (fun l q => by simp at q) n h
  rw [own_nil] at this
  exact this
end
theorem dpAll_fsh {K : PySem.W.Frag} {H H' : Hp} (s : Same H H') {vs : List V} {ds : List PyData} (n : noLs ds = true) (h : DpAll K H' vs ds) : DpAll K (fsh H H') vs ds := by
  have := dpAll_own (ls := []) s (fun l q => by simp at q) n h
  rw [own_nil] at this
  exact this
/-- a new list of data -/
def RetN (K : PySem.W.Frag) (H : Hp) (Q : VK) (ds : List PyData) : Prop := ∀ H' v, Same H H' → Lp K (fsh H H') v ds → Q v H'

/-! ### a comprehension without tests: a value a turn -/
theorem lc_map {J : It} {n : Nat} {G : Hp → Prop} {Y : Nat → Hp → V → Hp → Prop} (w : Walk J n G Y) {g : TG} {te : TE} {vs : List Nat} {σ : L2.St} {H1 : Hp} {D : Addr} {Qd : Hp → Prop} (R : Nat → V → Hp → Prop)
    (hD : H1 D = none) (hn : n ≤ sizeLine) (hR : ∀ i y Ha Hb, Same Ha Hb → R i y Ha → R i y Hb) (hG : ∀ H', Same H1 H' → G H')
    (hs : ∀ i x Ha Hb (Kk : V → Hp → Prop), i < n → Same H1 Ha → Y i Ha x Hb → (∀ y H4, Same Ha H4 → R i y (fsh Ha H4) → Kk y H4) →
      g x (wipe σ vs) Hb fun σ2 H2 => wipe σ2 vs = wipe σ vs ∧ te σ2 H2 Kk)
    (hd : ∀ H' ys, Same H1 H' → H' D = some (.lst ys) → ys.length = n → (∀ i y, ys[i]? = some y → R i y (own [D] H1 H')) → Qd H') :
    ∃ W : Nat → Nat → Hp → Prop, (∃ m, W 0 m (upd H1 D (.lst []))) ∧ ∀ i m H, W i m H →
      (J.stop i H ∧ Qd H) ∨ (J.go i H ∧ ∃ Nx : Hp → Prop, (∀ H', Nx H' → ∃ m', m' < m ∧ W (i + 1) m' H') ∧ ∀ x H', J.yld i H x H' → g x (wipe σ vs) H' fun σ2 H2 => wipe σ2 vs = wipe σ vs ∧ tYes σ2 H2 fun b H3 =>
        if b = true then te σ2 H3 fun y H4 => ∃ acc, H4 D = some (.lst acc) ∧ acc.length < sizeLine ∧ Nx (upd H4 D (.lst (acc ++ [y]))) else Nx H3) := by
  refine lc_it w (fun i H => ∃ acc : List V, Same H1 H ∧ H D = some (.lst acc) ∧ acc.length = i ∧ ∀ j y, acc[j]? = some y → R j y (own [D] H1 H)) ?_ ?_ ?_ ?_
  · exact ⟨[], same_new hD, upd_same, rfl, fun j y e => by simp at e⟩
  · rintro i H _ ⟨acc, s, _⟩
    exact hG H s
  · rintro i x H H' hi ⟨acc, s, e, hl, hr⟩ hY
    refine hs i x H H' _ hi s hY fun y H4 s4 r4 => ?_
    have e4 := s4 D _ e
    have hml : ∀ l ∈ [D], ∃ o, H l = some o ∧ isTup o = false := fun l hl => by
      rw [List.mem_singleton.mp hl]
      exact ⟨_, e, rfl⟩
    refine ⟨acc, e4, by omega, acc ++ [y], ?_, upd_same, by simp [hl], fun j z ez => ?_⟩
    · exact same_upd_new (s.trans s4) hD
    · rw [own_upd (List.mem_singleton.mpr rfl)]
      by_cases q : j < acc.length
      · rw [List.getElem?_append_left q] at ez
        exact hR j z _ _ (own_same s4) (hr j z ez)
      · have hj : j = acc.length := by
          have := (List.getElem?_eq_some_iff.mp ez).1
          simp at this
          omega
        subst hj
        rw [List.getElem?_append_right (Nat.le_refl _)] at ez
        simp at ez
        subst ez
        rw [hl]
        exact hR i y _ _ (own_fsh s hml) r4
  · rintro H ⟨acc, s, e, hl, hr⟩
    exact hd H acc s e hl hr
/-! ### isinstance -/
theorem ty_tup {K : PySem.W.Frag} {H : Hp} {a : Addr} {xs : List V} (h : SqT K H a xs) : TyX K H (.ref a) (.type "tuple") := by
  rcases h with (h | ⟨o, h⟩) | ⟨o, its, n, h, c, _⟩
  · exact .base (.tup h)
  · exact .fTuple h
  · exact .kTuple h c
theorem ty_lst {K : PySem.W.Frag} {H : Hp} {a : Addr} {xs : List V} (h : SqL K H a xs) : TyX K H (.ref a) (.type "list") := by
  rcases h with (h | ⟨o, h⟩) | ⟨o, its, n, h, c, _⟩
  · exact .base (.lst h)
  · exact .base (.frz h)
  · exact .kList h c
theorem kit_lt_l {K : PySem.W.Frag} : PySem.W.kitAny K (.type "list") [.type "list", .type "tuple"] = some true := kitAny_cons (kit_ty (r := true) (by decide +kernel)) (fun h => nomatch h) (fun _ => rfl)
theorem kit_lt_t {K : PySem.W.Frag} : PySem.W.kitAny K (.type "tuple") [.type "list", .type "tuple"] = some true :=
  kitAny_cons (b := false) (kit_ty (by decide +kernel)) (fun _ => kitAny_cons (b := true) (kit_ty (by decide +kernel)) (fun h => nomatch h) (fun _ => rfl)) (fun h => nomatch h)
theorem cls_lt : Paired ClsV [V.ty "list", V.ty "tuple"] [.type "list", .type "tuple"] := .cons (.ty _) (.cons (.ty _) .nil)
theorem all_true : ∀ {ys : List V}, (∀ (i : Nat) y, ys[i]? = some y → y = V.bl true) → ys = (List.replicate ys.length true).map V.bl
  | [], _ => rfl
  | y :: ys, h => by
    have h0 := h 0 y rfl
    have ih := all_true (ys := ys) fun i z e => h (i + 1) z (by simpa using e)
    rw [List.length_cons, List.replicate_succ, List.map_cons, ← ih, h0]
theorem all_rep (n : Nat) : (List.replicate n true).all id = true := by simp
end K6
set_option Elab.async false
set_option linter.all false
set_option maxRecDepth 100000
set_option maxHeartbeats 4000000
namespace K6
open PySem PySem.Spec PyProof.Rows L2
section
variable {P : Program} {w : World} {K : PySem.W.Frag} {mg : Str → Option Value} {base : Heap} {D : Ads}
def spIsWhole : Sp := fun vs H Q _ => ∃ i : Int, vs = [.int i] ∧ Q (.bl true) H
theorem ok_isWhole (T : Txt K mg D) : FnOk P w K mg base CX0 1 (D.d 7).f (D.d 7).fd ["thing"] spIsWhole := by
  refine T.w7.F.ok scIsWhole (fun vs H Q E h => ?_) (fun cdv A outer s H vs Q E hr h => ?_)
  · obtain ⟨i, rfl, _⟩ := h
    rfl
  · obtain ⟨i, rfl, k⟩ := h
    refine ⟨_, pss_one (ps_ret (pe_and (pe_callB call_isi (by rfl) T.isinstance boot_isinstance (pa_cons (pv 0) (pa_cons (pe_bltn (v := .ty "int") (by rfl) T.int boot_int rfl) pa_nil)))
      (pe_one (pe_not (pe_callB call_isi (by rfl) T.isinstance boot_isinstance (pa_cons (pv 0) (pa_cons (pe_bltn (v := .ty "bool") (by rfl) T.bool boot_bool rfl) pa_nil))))))), ?_⟩
    refine ⟨_, rfl, _, _, _, _, true, rfl, .ty _, .base (.int i), kit_ty (by decide +kernel), true, rfl, ?_⟩
    refine iteT ⟨_, rfl, _, _, _, _, false, rfl, .ty _, .base (.int i), kit_ty (by decide +kernel), false, rfl, k⟩
def spIsSign : Sp := fun vs H Q _ => ∃ i : Int, vs = [.int i] ∧ (i = 0 ∨ i = 1) ∧ Ret H Q (.bl true)
theorem ok_isSign (T : Txt K mg D) : FnOk P w K mg base CX0 2 (D.d 8).f (D.d 8).fd ["thing"] spIsSign := by
  refine T.w8.F.ok scIsSign (fun vs H Q E h => ?_) (fun cdv A outer s H vs Q E hr h => ?_)
  · obtain ⟨i, rfl, _⟩ := h
    rfl
  · obtain ⟨i, rfl, hi, k⟩ := h
    refine ⟨_, pss_one (ps_ret (pe_and (pe_call (ok_isWhole T) hr (by rfl) T.w7.m T.w7.F.kp T.w7.B .nil pass0 (pa_cons (pv 0) pa_nil))
      (pe_one (pe_cmpR op_in_seq (pv 0) (pe_tup (pa_cons pe_int (pa_cons pe_int pa_nil))) (by rfl))))), ?_⟩
    refine ⟨_, rfl, i, rfl, true, rfl, iteT ?_⟩
    refine ⟨_, rfl, by show 2 ≤ sizeLine; decide, fun p hp => ⟨p, _, rfl, .inr (SqT.of upd_same), rfl, rfl, ?_⟩⟩
    have e : inV (.int i) [.int 0, .int 1] = true := by rcases hi with rfl | rfl <;> rfl
    show Q (.bl (inV (.int i) [.int 0, .int 1])) _
    rw [e]
    exact k _ (same_new hp)
end
end K6
set_option Elab.async false
set_option linter.all false
set_option maxRecDepth 100000
set_option maxHeartbeats 4000000
namespace K6
open PySem PySem.Spec PyProof.Rows L2
section
variable {P : Program} {w : World} {K : PySem.W.Frag} {mg : Str → Option Value} {base : Heap} {D : Ads}
def spCheckSigns (K : PySem.W.Frag) : Sp := fun vs H Q _ => ∃ a, ∃ r : List Int, vs = [.ref a] ∧ SqL K H a (r.map V.int) ∧ Sign r ∧ r.length ≤ sizeLine ∧ Ret H Q .non
theorem ok_checkSigns (T : Txt K mg D) : FnOk P w K mg base CX0 3 (D.d 9).f (D.d 9).fd ["row"] (spCheckSigns K) := by
  refine T.w9.F.ok scCheckSigns (fun vs H Q E h => ?_) (fun cdv A outer s H vs Q E hr h => ?_)
  · obtain ⟨a, r, rfl, _⟩ := h
    rfl
  · obtain ⟨a, r, rfl, hS, hs, hz, k⟩ := h
    refine ⟨_, (pss_one (ps_if (PW.pt (pw_or (pt_not (pt_val (pe_callB call_isiT (by rfl) T.isinstance boot_isinstance (pa_cons (pv 0) (pa_cons (pe_tup (pa_cons (pe_bltn (v := .ty "list") (by rfl) T.list boot_list rfl) (pa_cons (pe_bltn (v := .ty "tuple") (by rfl) T.tuple boot_tuple rfl) pa_nil))) pa_nil))))) (pw_or1 (pt_not (pt_val (pe_callB (cr_all rfl) (by rfl) T.all boot_all (pa_cons (pe_lc (own := [("sign", 1)]) (by rfl) scCheckSigns.nd (pi_list (pv 0)) (blkOk_by (own := [("sign", 1)]) (N := ["row", "sign"]) (sc := defScope sCheckSigns) (by decide +kernel)) (fun _ _ _ _ _ => (pg_name (i := 1) scCheckSigns.nd rfl (by first | exact Or.inl rfl | exact Or.inr rfl))) (fun _ _ _ _ _ => pts_nil) (fun _ _ _ _ _ => (pe_call (ok_isSign T) (hr.mono (by decide)) (by rfl) T.w8.m T.w8.F.kp T.w8.B .nil pass0 (pa_cons (pv 1) pa_nil)))) pa_nil))))))) (pss_one ps_never) pss_nil)), ?_⟩
    refine ⟨_, rfl, by show 2 ≤ sizeLine; decide, fun p hp => ⟨_, p, _, _, _, true, rfl, upd_same, cls_lt, ty_lst ((same_new hp).seq hS), kit_lt_l, true, rfl, iteF ?_⟩⟩
    refine ⟨_, rfl, a, rfl, ⟨_, (same_new hp).seq hS⟩, fun Dd hDd => ?_⟩
    have s0 : Same H (upd H p (.tup [.ty "list", .ty "tuple"])) := same_new hp
    refine lc_map (walk_list (K := K) (a := a) (xs := r.map V.int)) (fun _ y _ => y = .bl true) hDd (by rw [List.length_map]; exact hz) (fun _ _ _ _ _ h => h) (fun H' s1 => s1.seq (s0.seq hS)) ?_ ?_
    · rintro i x Ha Hb Kk hi s1 ⟨rfl, ex⟩ kk
      rw [List.getElem?_map] at ex
      obtain ⟨z, hz, rfl⟩ := Option.map_eq_some_iff.mp ex
      exact ⟨rfl, _, rfl, z, rfl, hs z (List.mem_of_getElem? hz), fun H4 s4 => kk _ _ s4 rfl⟩
    · intro H' ys s1 e1 l1 r1
      refine ⟨Dd, List.replicate ys.length true, rfl, ?_, ?_⟩
      · rw [← all_true r1]; exact SqL.of e1
      · rw [all_rep]
        exact ⟨true, rfl, iteF (k _ (s0.trans s1))⟩
end
end K6
set_option Elab.async false
set_option linter.all false
set_option maxRecDepth 100000
set_option maxHeartbeats 4000000
namespace K6
open PySem PySem.Spec PyProof.Rows L2
theorem nmS_cases (i : Nat) : nmS i = "a" ∨ nmS i = "b" ∨ nmS i = "c" := by
  match i with
  | 0 => exact .inl rfl
  | 1 => exact .inr (.inl rfl)
  | _ + 2 => exact .inr (.inr rfl)
section
variable {P : Program} {w : World} {K : PySem.W.Frag} {mg : Str → Option Value} {base : Heap} {D : Ads}
def spIsTitle : Sp := fun vs H Q _ => ∃ i : Nat, vs = [.str (nmS i)] ∧ Ret H Q (.bl true)
theorem ok_isTitle (T : Txt K mg D) : FnOk P w K mg base CX0 1 (D.d 16).f (D.d 16).fd ["thing"] spIsTitle := by
  refine T.w16.F.ok scIsTitle (fun vs H Q E h => ?_) (fun cdv A outer s H vs Q E hr h => ?_)
  · obtain ⟨i, rfl, _⟩ := h
    rfl
  · obtain ⟨i, rfl, k⟩ := h
    refine ⟨_, (pss_one (ps_ret (pe_and (pe_callB call_isi (by rfl) T.isinstance boot_isinstance (pa_cons (pv 0) (pa_cons (pe_bltn (v := .ty "str") (by rfl) T.str boot_str rfl) pa_nil))) (pe_and (pe_chain op_le op_le pe_int (pe_callB call_len_str (by rfl) T.len boot_len (pa_cons (pv 0) pa_nil)) pe_int) (pe_one (pe_callB (cr_all rfl) (by rfl) T.all boot_all (pa_cons (pe_lc (own := [("sign", 1)]) (by rfl) scIsTitle.nd (pi_str (pv 0)) (blkOk_by (own := [("sign", 1)]) (N := ["thing", "sign"]) (sc := defScope sIsTitle) (by decide +kernel)) (fun _ _ _ _ _ => (pg_name (i := 1) scIsTitle.nd rfl (by first | exact Or.inl rfl | exact Or.inr rfl))) (fun _ _ _ _ _ => pts_nil) (fun _ _ _ _ _ => (pe_cmpR op_in_sign (pv 1) (pe_glob (v := .str "abcdefghijklmnopqrstuvwxyz") (by rfl) T.letters.choose_spec ⟨_, rfl⟩) (by rfl)))) pa_nil))))))), ?_⟩
    refine ⟨_, rfl, _, _, _, _, true, rfl, .ty _, .base (.str _), kit_ty (by decide +kernel), true, rfl, iteT ?_⟩
    have hl : (nmS i).length = 1 := by rcases nmS_cases i with e | e | e <;> rw [e] <;> decide +kernel
    refine ⟨_, rfl, _, rfl, by rw [hl]; decide, _, _, rfl, rfl, true, by rw [hl]; rfl, iteT ⟨_, _, rfl, rfl, true, by rw [hl]; rfl, iteT ?_⟩⟩
    refine ⟨_, rfl, _, rfl, fun Dd hDd => ?_⟩
    refine lc_map (walk_str (z := nmS i)) (fun _ y _ => y = .bl true) hDd (by show (nmS i).length ≤ _; rw [hl]; decide) (fun _ _ _ _ _ h => h) (fun H' s1 => trivial) ?_ ?_
    · rintro j x Ha Hb Kk hi s1 ⟨rfl, c, ec, rfl⟩ kk
      refine ⟨rfl, _, rfl, _, _, rfl, rfl, kk _ _ (Same.refl _) ?_⟩
      have hj : j = 0 := by
        have : j < (nmS i).length := hi
        omega
      subst hj
      rcases nmS_cases i with e | e | e <;> rw [e] at ec <;> (have ec' := Option.some.inj ec; rw [← ec']; decide +kernel)
    · intro H' ys s1 e1 l1 r1
      refine ⟨Dd, List.replicate ys.length true, rfl, ?_, ?_⟩
      · rw [← all_true r1]; exact SqL.of e1
      · rw [all_rep]
        exact k _ s1
/-! ### steps -/
def spIsStep (K : PySem.W.Frag) : Sp := fun vs H Q _ => ∃ a, ∃ s : Stp, vs = [.ref a] ∧ SqT K H a ((stpL s).map V.str) ∧ Ret H Q (.bl true)
theorem ok_isStep (T : Txt K mg D) : FnOk P w K mg base CX0 1 (D.d 17).f (D.d 17).fd ["thing"] (spIsStep K) := by
  refine T.w17.F.ok scIsStep (fun vs H Q E h => ?_) (fun cdv A outer s H vs Q E hr h => ?_)
  · obtain ⟨a, s, rfl, _⟩ := h
    rfl
  · obtain ⟨a, st, rfl, hS, k⟩ := h
    refine ⟨_, (pss_cons (ps_if (PW.pt (pw_or (pt_not (pt_val (pe_callB call_isi (by rfl) T.isinstance boot_isinstance (pa_cons (pv 0) (pa_cons (pe_bltn (v := .ty "tuple") (by rfl) T.tuple boot_tuple rfl) pa_nil))))) (pw_or (pt_cmpR op_eq (pe_callB call_len_seq (by rfl) T.len boot_len (pa_cons (pv 0) pa_nil)) pe_int (nomark _)) (pw_or1 (pt_not (pt_val (pe_callB call_isi (by rfl) T.isinstance boot_isinstance (pa_cons (pe_ix ix_tup (pv 0) pe_int (fun _ _ => rfl)) (pa_cons (pe_bltn (v := .ty "str") (by rfl) T.str boot_str rfl) pa_nil))))))))) (pss_one (ps_ret pe_bl)) pss_nil)
      (pss_cons (ps_if (pt_cmpR op_eq (pe_ix ix_tup (pv 0) pe_int (fun _ _ => rfl)) pe_str (nomark _)) (pss_one (ps_ret (pe_cmpR op_eq (pe_callB call_len_seq (by rfl) T.len boot_len (pa_cons (pv 0) pa_nil)) pe_int (nomark _)))) pss_nil)
      (pss_cons (ps_if (PW.pt (pw_or (pt_cmpR op_ne (pe_callB call_len_seq (by rfl) T.len boot_len (pa_cons (pv 0) pa_nil)) pe_int (nomark _)) (pw_or1 (pt_not (pt_val (pe_callB call_isi (by rfl) T.isinstance boot_isinstance (pa_cons (pe_ix ix_tup (pv 0) pe_int (fun _ _ => rfl)) (pa_cons (pe_bltn (v := .ty "str") (by rfl) T.str boot_str rfl) pa_nil)))))))) (pss_one (ps_ret pe_bl)) pss_nil)
      (pss_one (ps_ret (pe_ifExp (pt_cmpR op_eq (pe_ix ix_tup (pv 0) pe_int (fun _ _ => rfl)) pe_str (nomark _)) (pe_cmpR op_in_seq (pe_ix ix_tup (pv 0) pe_int (fun _ _ => rfl)) (pe_glob (v := .ref D.sides) (by rfl) T.sidesM rfl) (by rfl)) (pe_and (pe_cmpR op_in_seq (pe_ix ix_tup (pv 0) pe_int (fun _ _ => rfl)) (pe_tup (pa_cons pe_str (pa_cons pe_str pa_nil))) (by rfl)) (pe_one (pe_cmpR op_in_seq (pe_ix ix_tup (pv 0) pe_int (fun _ _ => rfl)) (pe_glob (v := .ref D.orders) (by rfl) T.ordersM rfl) (by rfl)))))))))), ?_⟩
    have h0 : ∃ x l, (stpL st).map V.str = .str x :: l := by cases st <;> exact ⟨_, _, rfl⟩
    obtain ⟨x0, l0, e0⟩ := h0
    have a0 : atI ((stpL st).map V.str) 0 = some (.str x0) := by rw [e0]; exact at_of (j := 0) rfl rfl
    have hlen : ((stpL st).map V.str).length ≠ 0 := by rw [e0]; simp
    refine ⟨_, rfl, _, _, _, _, true, rfl, .ty _, ty_tup hS, kit_ty (by decide +kernel), true, rfl, iteF ?_⟩
    refine ⟨_, rfl, _, _, rfl, .inr hS, rfl, false, ?_, iteF ?_⟩
    · exact congrArg V.bl (decide_eq_false fun q => hlen (by injection q with q; exact Int.ofNat.inj q))
    refine ⟨_, rfl, _, _, _, _, rfl, rfl, hS, a0, _, _, _, _, true, rfl, .ty _, .base (.str _), kit_ty (by decide +kernel), true, rfl, iteF ?_⟩
    cases st with
    | swap =>
      refine ⟨_, rfl, _, _, _, _, rfl, rfl, hS, a0, rfl, true, ?_, iteT ?_⟩
      · cases e0; decide +kernel
      · exact ⟨_, rfl, _, _, rfl, .inr hS, rfl, k _ (Same.refl _)⟩
    | flip z =>
      have ex : x0 = "flip" := by cases e0; rfl
      subst ex
      refine ⟨_, rfl, _, _, _, _, rfl, rfl, hS, a0, rfl, false, by decide +kernel, iteF ?_⟩
      refine ⟨_, rfl, _, _, rfl, .inr hS, rfl, false, rfl, iteF ?_⟩
      refine ⟨_, rfl, _, _, _, .str (sdS z), rfl, rfl, hS, rfl, _, _, _, _, true, rfl, .ty _, .base (.str _), kit_ty (by decide +kernel), true, rfl, iteF ?_⟩
      refine ⟨_, rfl, _, _, _, _, rfl, rfl, hS, a0, rfl, true, by decide +kernel, iteT ?_⟩
      refine ⟨_, rfl, _, _, _, .str (sdS z), rfl, rfl, hS, rfl, _, _, rfl, .inr (T.sidesT _), rfl, rfl, ?_⟩
      have e : inV (.str (sdS z)) [.str "left", .str "right", .str "both", .str "all"] = true := by cases z <;> decide +kernel
      show Q (.bl (inV _ _)) _
      rw [e]
      exact k _ (Same.refl _)
    | cmp x up =>
      have ex : x0 = kindS x := by cases e0; rfl
      subst ex
      refine ⟨_, rfl, _, _, _, _, rfl, rfl, hS, a0, rfl, false, by cases x <;> decide +kernel, iteF ?_⟩
      refine ⟨_, rfl, _, _, rfl, .inr hS, rfl, false, rfl, iteF ?_⟩
      refine ⟨_, rfl, _, _, _, .str (ordS up), rfl, rfl, hS, rfl, _, _, _, _, true, rfl, .ty _, .base (.str _), kit_ty (by decide +kernel), true, rfl, iteF ?_⟩
      refine ⟨_, rfl, _, _, _, _, rfl, rfl, hS, a0, rfl, false, by cases x <;> decide +kernel, iteF ?_⟩
      refine ⟨_, rfl, _, _, _, _, rfl, rfl, hS, a0, by decide, fun p hp => ⟨_, _, rfl, .inr (SqT.of upd_same), rfl, rfl, ?_⟩⟩
      have e : inV (.str (kindS x)) [.str "cross", .str "mirror"] = true := by cases x <;> decide +kernel
      refine ⟨_, rfl, ?_⟩
      rw [show (if false = true then !inV (.str (kindS x)) [.str "cross", .str "mirror"] else inV (.str (kindS x)) [.str "cross", .str "mirror"]) = true from e]
      refine iteT ?_
      refine ⟨_, rfl, _, _, _, .str (ordS up), rfl, rfl, tupS (same_new hp) hS, rfl, _, _, rfl, .inr (T.ordersT _), rfl, rfl, ?_⟩
      have e : inV (.str (ordS up)) [.str "up", .str "down"] = true := by cases up <;> decide +kernel
      show Q (.bl (inV _ _)) _
      rw [e]
      exact k _ (same_new hp)
end
end K6
set_option Elab.async false
set_option linter.all false
set_option maxRecDepth 100000
set_option maxHeartbeats 4000000
namespace K6
open PySem PySem.Spec PyProof.Rows L2
theorem nmS_inj : ∀ {i j : Nat}, i < 3 → j < 3 → nmS i = nmS j → i = j := by
  intro i j hi hj h
  have a : i = 0 ∨ i = 1 ∨ i = 2 := by omega
  have b : j = 0 ∨ j = 1 ∨ j = 2 := by omega
  rcases a with rfl | rfl | rfl <;> rcases b with rfl | rfl | rfl <;> first | rfl | (exact absurd h (by decide +kernel))
theorem valV_find {κ : Type} [DecidableEq κ] : ∀ {kvs : List (κ × V)} {i : Nat} {k : κ}, (kvs.map Prod.fst).Nodup → (kvs.map Prod.fst)[i]? = some k → valV kvs k = (kvs.map Prod.snd)[i]?
  | [], _, _, _, h => by simp at h
  | p :: kvs, 0, k, _, h => by
    simp at h
    rw [valV_pos h]
    rfl
  | p :: kvs, i + 1, k, nd, h => by
    rw [List.map_cons, List.nodup_cons] at nd
    have h' : (kvs.map Prod.fst)[i]? = some k := by simpa using h
    have ne : ¬ p.1 = k := fun e => nd.1 (by rw [e]; exact List.mem_of_getElem? h')
    rw [valV_neg ne, valV_find nd.2 h']
    simp
theorem looms_nodup {n : Nat} (h : n ≤ 3) : ((List.range n).map (fun i => (Sum.inr (nmS i) : L2.Key))).Nodup := by
  match n, h with
  | 0, _ => decide +kernel
  | 1, _ => decide +kernel
  | 2, _ => decide +kernel
  | 3, _ => decide +kernel
theorem at_get {L : Looms} {i : Nat} (h : i < L.length) : L[i]? = some (L.at i) := by
  unfold Looms.at
  rw [List.getElem?_eq_getElem h]
  rfl
theorem looms_get {K : PySem.W.Frag} {H : Hp} {v : V} {L : Looms} (h : LoomsAt K H v L) (h3 : L.length ≤ 3) {i : Nat} (hi : i < L.length) :
    ∃ a u, v = .ref a ∧ DGet H a (.str (nmS i)) (some u) ∧ Dp K H u (loomD (L.at i)) := by
  obtain ⟨a, kvs, rfl, h1, h2, h4⟩ := h
  have e1 : (kvs.map Prod.fst)[i]? = some (Sum.inr (nmS i)) := by rw [h2]; simp [hi]
  have e2 := valV_find (by rw [h2]; exact looms_nodup h3) e1
  obtain ⟨u, q1, q2⟩ := h4.get (i := i) (d := loomD (L.at i)) (by rw [List.getElem?_map, at_get hi]; rfl)
  exact ⟨a, u, rfl, .inl ⟨kvs, .inr (nmS i), .inl h1, rfl, by rw [e2, q1]⟩, q2⟩
theorem call_lt {L : Looms} (h : LOk L) {i : Nat} {s : Bool} {c : Nat × Bool} (e : (L.at i).call s = some c) : c.1 < L.length := by
  unfold Looms.at at e
  cases q : L[i]? with
  | none => rw [q] at e; cases s <;> simp [Loom.call] at e
  | some l => rw [q] at e; exact h.calls l (List.mem_of_getElem? q) s c e
theorem steps_le {L : Looms} (h : LOk L) (i : Nat) : (L.at i).steps.length ≤ 3 := by
  unfold Looms.at
  cases q : L[i]? with
  | none => simp
  | some l => exact h.steps l (List.mem_of_getElem? q)
theorem LOk.wf {L : Looms} (h : LOk L) : WF L := fun n s c e => Nat.lt_of_lt_of_le (call_lt h e) h.three
theorem strs_of {K : PySem.W.Frag} {H : Hp} : ∀ {vs : List V} {l : List Str}, DpAll K H vs (l.map .str) → vs = l.map V.str
  | _, [], h => by cases h; rfl
  | _, a :: l, h => by
    cases h with
    | cons h k => cases h; rw [strs_of k]; rfl
theorem stp_get {K : PySem.W.Frag} {H : Hp} {v : V} {s : Stp} (h : Dp K H v (stpD s)) : ∃ a, v = .ref a ∧ SqT K H a ((stpL s).map V.str) := by
  obtain ⟨a, xs, rfl, h1, h2⟩ := h.tuple
  rw [strs_of h2] at h1
  exact ⟨a, rfl, h1⟩
theorem loom_get {K : PySem.W.Frag} {H : Hp} {v : V} {l : Loom} (h : Dp K H v (loomD l)) : ∃ a v0 v1 v2, v = .ref a ∧ SqT K H a [v0, v1, v2] ∧ Dp K H v0 (.tuple (l.steps.map stpD)) ∧ Dp K H v1 (callD l.one) ∧ Dp K H v2 (callD l.two) := by
  obtain ⟨a, xs, rfl, h1, h2⟩ := h.tuple
  cases h2 with
  | cons k0 h2 =>
    cases h2 with
    | cons k1 h2 =>
      cases h2 with
      | cons k2 h2 =>
        cases h2
        exact ⟨a, _, _, _, rfl, h1, k0, k1, k2⟩
theorem call_get {K : PySem.W.Frag} {H : Hp} {v : V} {c : Nat × Bool} (h : Dp K H v (callD (some c))) : ∃ a, v = .ref a ∧ SqT K H a [.str (nmS c.1), .bl c.2] := by
  obtain ⟨a, xs, rfl, h1, h2⟩ := h.tuple
  cases h2 with
  | cons k0 h2 =>
    cases h2 with
    | cons k1 h2 =>
      cases h2
      cases k0
      cases k1
      exact ⟨a, rfl, h1⟩
section
variable {P : Program} {w : World} {K : PySem.W.Frag} {mg : Str → Option Value} {base : Heap} {D : Ads}
def spIsCall (K : PySem.W.Frag) : Sp := fun vs H Q _ => ∃ (v u : V) (c : Option (Nat × Bool)) (L : Looms), vs = [v, u] ∧ Dp K H v (callD c) ∧ LoomsAt K H u L ∧ L.length ≤ 3 ∧ (∀ x, c = some x → x.1 < L.length) ∧ Q (.bl true) H
theorem ok_isCall (T : Txt K mg D) : FnOk P w K mg base CX0 1 (D.d 18).f (D.d 18).fd ["thing", "looms"] (spIsCall K) := by
  refine T.w18.F.ok scIsCall (fun vs H Q E h => ?_) (fun cdv A outer s H vs Q E hr h => ?_)
  · obtain ⟨a, s, _, _, rfl, _⟩ := h
    rfl
  · obtain ⟨v, u, c, L, rfl, hv, hL, h3, hc, k⟩ := h
    refine ⟨_, (pss_cons (ps_if (pt_cmp (pc_isN (pv 0)) rfl) (pss_one (ps_ret pe_bl)) pss_nil)
      (pss_cons (ps_if (PW.pt (pw_or (pt_not (pt_val (pe_callB call_isi (by rfl) T.isinstance boot_isinstance (pa_cons (pv 0) (pa_cons (pe_bltn (v := .ty "tuple") (by rfl) T.tuple boot_tuple rfl) pa_nil))))) (pw_or (pt_cmpR op_ne (pe_callB call_len_seq (by rfl) T.len boot_len (pa_cons (pv 0) pa_nil)) pe_int (nomark _)) (pw_or1 (pt_not (pt_val (pe_callB call_isi (by rfl) T.isinstance boot_isinstance (pa_cons (pe_ix ix_tup (pv 0) pe_int (fun _ _ => rfl)) (pa_cons (pe_bltn (v := .ty "str") (by rfl) T.str boot_str rfl) pa_nil))))))))) (pss_one (ps_ret pe_bl)) pss_nil)
      (pss_one (ps_ret (pe_and (pe_cmp (pc_din (hu_of hr) (pe_ix ix_tup (pv 0) pe_int (fun _ _ => rfl)) (pv 1)) (by rfl)) (pe_one (pe_callB call_isi (by rfl) T.isinstance boot_isinstance (pa_cons (pe_ix ix_tup (pv 0) pe_int (fun _ _ => rfl)) (pa_cons (pe_bltn (v := .ty "bool") (by rfl) T.bool boot_bool rfl) pa_nil))))))))), ?_⟩
    cases c with
    | none =>
      have e := Dp.isNone hv
      subst e
      exact ⟨_, rfl, true, rfl, iteT k⟩
    | some c =>
      obtain ⟨a, rfl, hS⟩ := call_get hv
      obtain ⟨b, u', rfl, hg, _⟩ := looms_get hL h3 (hc c rfl)
      refine ⟨_, rfl, false, rfl, iteF ?_⟩
      refine ⟨_, rfl, _, _, _, _, true, rfl, .ty _, ty_tup hS, kit_ty (by decide +kernel), true, rfl, iteF ?_⟩
      refine ⟨_, rfl, _, _, rfl, .inr hS, rfl, false, rfl, iteF ?_⟩
      refine ⟨_, rfl, _, _, _, .str (nmS c.1), rfl, rfl, hS, at_of (j := 0) rfl rfl, _, _, _, _, true, rfl, .ty _, .base (.str _), kit_ty (by decide +kernel), true, rfl, iteF ?_⟩
      refine ⟨_, rfl, _, _, _, .str (nmS c.1), rfl, rfl, hS, at_of (j := 0) rfl rfl, _, rfl, b, _, rfl, hg, true, rfl, iteT ?_⟩
      exact ⟨_, rfl, _, _, _, .bl c.2, rfl, rfl, hS, at_of (j := 1) rfl rfl, _, _, _, _, true, rfl, .ty _, .base (.bl _), kit_ty (by decide +kernel), k⟩
def spIsLoom (K : PySem.W.Frag) : Sp := fun vs H Q _ => ∃ (v u : V) (L : Looms) (l : Loom), vs = [v, u] ∧ Dp K H v (loomD l) ∧ LoomsAt K H u L ∧ L.length ≤ 3 ∧ (∀ s c, l.call s = some c → c.1 < L.length) ∧ l.steps.length ≤ 3 ∧ Ret H Q (.bl true)
theorem ok_isLoom (T : Txt K mg D) : FnOk P w K mg base CX0 2 (D.d 19).f (D.d 19).fd ["thing", "looms"] (spIsLoom K) := by
  refine T.w19.F.ok scIsLoom (fun vs H Q E h => ?_) (fun cdv A outer s H vs Q E hr h => ?_)
  · obtain ⟨a, s, _, _, rfl, _⟩ := h
    rfl
  · obtain ⟨v, u, L, l, rfl, hv, hL, h3, hc, hs, k⟩ := h
    refine ⟨_, (pss_cons (ps_if (PW.pt (pw_or (pt_not (pt_val (pe_callB call_isi (by rfl) T.isinstance boot_isinstance (pa_cons (pv 0) (pa_cons (pe_bltn (v := .ty "tuple") (by rfl) T.tuple boot_tuple rfl) pa_nil))))) (pw_or (pt_cmpR op_ne (pe_callB call_len_seq (by rfl) T.len boot_len (pa_cons (pv 0) pa_nil)) pe_int (nomark _)) (pw_or1 (pt_not (pt_val (pe_callB call_isi (by rfl) T.isinstance boot_isinstance (pa_cons (pe_ix ix_tup (pv 0) pe_int (fun _ _ => rfl)) (pa_cons (pe_bltn (v := .ty "tuple") (by rfl) T.tuple boot_tuple rfl) pa_nil))))))))) (pss_one (ps_ret pe_bl)) pss_nil)
      (pss_cons (ps_if (PW.pt (pw_or (pt_cmpR op_gt (pe_callB call_len_seq (by rfl) T.len boot_len (pa_cons (pe_ix ix_tup (pv 0) pe_int (fun _ _ => rfl)) pa_nil)) (pe_glob (v := .int 12) (by rfl) T.mostSteps.choose_spec ⟨_, rfl⟩) (nomark _)) (pw_or1 (pt_not (pt_val (pe_callB (cr_all rfl) (by rfl) T.all boot_all (pa_cons (pe_lc (own := [("step", 3)]) (by rfl) scIsLoom.nd (pi_tup (pe_ix ix_tup (pv 0) pe_int (fun _ _ => rfl))) (blkOk_by (own := [("step", 3)]) (N := ["thing", "looms", "call", "step"]) (sc := defScope sIsLoom) (by decide +kernel)) (fun _ _ _ _ _ => (pg_name (i := 3) scIsLoom.nd rfl (by first | exact Or.inl rfl | exact Or.inr rfl))) (fun _ _ _ _ _ => pts_nil) (fun _ _ _ _ _ => (pe_call (ok_isStep T) (hr.mono (by decide)) (by rfl) T.w17.m T.w17.F.kp T.w17.B .nil pass0 (pa_cons (pv 3) pa_nil)))) pa_nil))))))) (pss_one (ps_ret pe_bl)) pss_nil)
      (pss_one (ps_ret (pe_callB (cr_all rfl) (by rfl) T.all boot_all (pa_cons (pe_lc (own := [("call", 2)]) (by rfl) scIsLoom.nd (pi_tup (pe_slice sl_tup (pv 0) (po_some pe_int) po_none)) (blkOk_by (own := [("call", 2)]) (N := ["thing", "looms", "call", "step"]) (sc := defScope sIsLoom) (by decide +kernel)) (fun _ _ _ _ _ => (pg_name (i := 2) scIsLoom.nd rfl (by first | exact Or.inl rfl | exact Or.inr rfl))) (fun _ _ _ _ _ => pts_nil) (fun _ _ _ _ _ => (pe_call (ok_isCall T) (hr.mono (by decide)) (by rfl) T.w18.m T.w18.F.kp T.w18.B .nil pass0 (pa_cons (pv 2) (pa_cons (pv 1) pa_nil))))) pa_nil)))))), ?_⟩
    obtain ⟨a, v0, v1, v2, rfl, hS, k0, k1, k2⟩ := loom_get hv
    obtain ⟨b, xs, rfl, hB, hx⟩ := k0.tuple
    have hlx : xs.length = l.steps.length := by rw [hx.length]; simp
    refine ⟨_, rfl, _, _, _, _, true, rfl, .ty _, ty_tup hS, kit_ty (by decide +kernel), true, rfl, iteF ?_⟩
    refine ⟨_, rfl, _, _, rfl, .inr hS, rfl, false, rfl, iteF ?_⟩
    refine ⟨_, rfl, _, _, _, .ref b, rfl, rfl, hS, at_of (j := 0) rfl rfl, _, _, _, _, true, rfl, .ty _, ty_tup hB, kit_ty (by decide +kernel), true, rfl, iteF ?_⟩
    refine ⟨_, rfl, _, _, _, .ref b, rfl, rfl, hS, at_of (j := 0) rfl rfl, _, _, rfl, .inr hB, _, _, rfl, rfl, false, ?_, iteF ?_⟩
    · exact congrArg V.bl (decide_eq_false (by rw [hlx]; omega))
    refine ⟨_, rfl, _, _, _, .ref b, rfl, rfl, hS, at_of (j := 0) rfl rfl, b, rfl, ⟨_, hB⟩, fun Dd hDd => ?_⟩
    refine lc_map (walk_tup (K := K) (a := b) (xs := xs)) (fun _ y _ => y = .bl true) hDd (by rw [hlx]; exact Nat.le_trans hs (by decide)) (fun _ _ _ _ _ h => h) (fun H' s1 => tupS s1 hB) ?_ ?_
    · rintro i x Ha Hb Kk hi s1 ⟨rfl, ex⟩ kk
      obtain ⟨d, ed, hd⟩ := hx.getV ex
      rw [List.getElem?_map] at ed
      obtain ⟨st, _, rfl⟩ := Option.map_eq_some_iff.mp ed
      obtain ⟨c, rfl, hc2⟩ := stp_get (hd.mono s1)
      exact ⟨rfl, _, rfl, c, st, rfl, hc2, fun H4 s4 => kk _ _ s4 rfl⟩
    · intro H1 ys s1 e1 l1 r1
      refine ⟨Dd, List.replicate ys.length true, rfl, ?_, ?_⟩
      · rw [← all_true r1]; exact SqL.of e1
      rw [all_rep]
      refine ⟨true, rfl, iteF ?_⟩
      refine ⟨_, rfl, _, rfl, a, _, rfl, tupS s1 hS, ?_, fun p hp => ?_⟩
      · show ¬ (HT.sIx 3 0 (some 1) = 0 ∧ HT.sIx 3 3 none = 3)
        decide
      refine ⟨p, rfl, ⟨_, SqT.of upd_same⟩, fun De hDe => ?_⟩
      have s2 : Same H (upd H1 p (.tup (cutV [V.ref b, v1, v2] (some 1) none))) := s1.trans (same_new hp)
      refine lc_map (walk_tup (K := K) (a := p) (xs := [v1, v2])) (fun _ y _ => y = .bl true) hDe (by show 2 ≤ _; decide) (fun _ _ _ _ _ h => h) (fun H' s3 => tupS s3 (SqT.of upd_same)) ?_ ?_
      · rintro i x Ha Hb Kk hi s3 ⟨rfl, ex⟩ kk
        have s4 := s2.trans s3
        have key : ∃ sd, Dp K Hb x (callD (l.call sd)) := by
          match i, hi with
          | 0, _ => exact ⟨false, by cases Option.some.inj ex; exact k1.mono s4⟩
          | 1, _ => exact ⟨true, by cases Option.some.inj ex; exact k2.mono s4⟩
        obtain ⟨sd, hx2⟩ := key
        exact ⟨rfl, _, rfl, _, rfl, x, u, _, L, rfl, hx2, hL.mono s4, h3, hc sd, kk _ _ (Same.refl _) rfl⟩
      · intro H2 zs s3 e2 l2 r2
        refine ⟨De, List.replicate zs.length true, rfl, ?_, ?_⟩
        · rw [← all_true r2]; exact SqL.of e2
        · rw [all_rep]
          exact k _ (s2.trans s3)
end
end K6
set_option Elab.async false
set_option linter.all false
set_option maxRecDepth 100000
set_option maxHeartbeats 4000000
namespace K6
open PySem PySem.Spec PyProof.Rows L2
theorem lock_same {Hx Hy : Hp} {d : Addr} {u : HO} (s : Same Hx Hy) : Same (upd Hx d u) (upd Hy d u) := fun b o e => by
  by_cases q : b = d
  · subst q
    rw [upd_same] at e ⊢
    exact e
  · rw [upd_ne q] at e ⊢
    exact s b o e
theorem upd_back {H : Hp} {d : Addr} {u : HO} (h : H d = some u) : Same H (upd H d u) := fun b o e => by
  by_cases q : b = d
  · subst q
    rw [h] at e
    rw [upd_same]
    exact e
  · rw [upd_ne q]
    exact e
section
variable {P : Program} {w : World} {K : PySem.W.Frag} {mg : Str → Option Value} {base : Heap} {D : Ads}
def spCheckLooms (K : PySem.W.Frag) : Sp := fun vs H Q _ => ∃ (u : V) (L : Looms), vs = [u] ∧ LoomsAt K H u L ∧ LOk L ∧ Ret H Q .non
theorem ok_checkLooms (T : Txt K mg D) : FnOk P w K mg base CX0 3 (D.d 20).f (D.d 20).fd ["looms"] (spCheckLooms K) := by
  refine T.w20.F.ok scCheckLooms (fun vs H Q E h => ?_) (fun cdv A outer s H vs Q E hr h => ?_)
  · obtain ⟨a, s, rfl, _⟩ := h
    rfl
  · obtain ⟨u, L, rfl, hL, ok, k⟩ := h
    refine ⟨_, (pss_cons (ps_if (PW.pt (pw_or (pt_not (pt_val (pe_callB call_isi (by rfl) T.isinstance boot_isinstance (pa_cons (pv 0) (pa_cons (pe_bltn (v := .ty "dict") (by rfl) T.dict boot_dict rfl) pa_nil))))) (pw_or1 (pt_not (pt_chain op_le op_le pe_int (pe_callB call_lenD (by rfl) T.len boot_len (pa_cons (pv 0) pa_nil)) (pe_glob (v := .int 8) (by rfl) T.mostLooms.choose_spec ⟨_, rfl⟩)))))) (pss_one ps_never) pss_nil)
      (pss_cons (ps_lock (ps_for PassesOwn.never rfl (pi_keys (pv 0)) (pg_name (i := 1) scCheckLooms.nd rfl (by first | exact Or.inl rfl | exact Or.inr rfl)) (pss_one (ps_if (pt_not (pt_val (pe_call (ok_isTitle T) (hr.mono (by decide)) (by rfl) T.w16.m T.w16.F.kp T.w16.B .nil pass0 (pa_cons (pv 1) pa_nil)))) (pss_one ps_never) pss_nil))))
      (pss_one (ps_for PassesOwn.never rfl (pi_list (pe_callB (call_sortedD rfl) (by rfl) T.sorted boot_sorted (pa_cons (pv 0) pa_nil))) (pg_name (i := 1) scCheckLooms.nd rfl (by first | exact Or.inl rfl | exact Or.inr rfl)) (pss_one (ps_if (pt_not (pt_val (pe_call (ok_isLoom T) (hr.mono (by decide)) (by rfl) T.w19.m T.w19.F.kp T.w19.B .nil pass0 (pa_cons (pe_dget (hu_of hr) (pv 0) (pv 1) (fun _ _ => rfl)) (pa_cons (pv 0) pa_nil))))) (pss_one ps_never) pss_nil)))))), ?_⟩
    obtain ⟨a, kvs, rfl, hA, hK, hV⟩ := id hL
    have hlen : kvs.length = L.length := by
      have := congrArg List.length hK
      simpa using this
    refine ⟨_, rfl, _, _, _, _, true, rfl, .ty _, .base (.dK hA), kit_ty (by decide +kernel), true, rfl, iteF ?_⟩
    have hp := ok.pos
    have h3 := ok.three
    refine ⟨_, rfl, _, _, rfl, hA, _, _, rfl, rfl, true, congrArg V.bl (decide_eq_true (by rw [hlen]; omega)), iteT ⟨_, _, rfl, rfl, true, congrArg V.bl (decide_eq_true (by rw [hlen]; omega)), iteF ?_⟩⟩
    -- for name in looms
    refine ⟨a, _, hA, trivial, fun od => ?_⟩
    refine ⟨_, rfl, a, od, rfl, .inl ⟨kvs, upd_same, ?_⟩⟩
    refine for_it (walk_keys (d := a) (o := od) (kvs := kvs)) (fun i σ Hx => ∃ z, σ = [some (.ref a), z] ∧ Hx a = some (.frz od (.dK kvs)) ∧ Same H (upd Hx a (.dK kvs))) ⟨none, rfl, upd_same, by rw [upd_upd]; exact upd_back hA⟩ (fun i σ Hx _ ⟨_, _, h, _⟩ => h) ?_ ?_
    · rintro i x σ Hx Hy hi ⟨z, rfl, h1, h2⟩ ⟨rfl, key, v, e1, rfl⟩
      have e2 : (kvs.map Prod.fst)[i]? = some key := by rw [List.getElem?_map, e1]; rfl
      rw [hK, List.getElem?_map] at e2
      obtain ⟨j, ej, rfl⟩ := Option.map_eq_some_iff.mp e2
      refine ⟨_, rfl, j, rfl, fun H4 s4 => ⟨true, rfl, iteF ?_⟩⟩
      exact ⟨_, rfl, s4 _ _ h1, h2.trans (lock_same s4)⟩
    · rintro σ Hx ⟨z, rfl, h1, h2⟩
      refine ⟨h1, ?_⟩
      -- for name in sorted(looms)
      have hL2 := hL.mono h2
      refine ⟨_, rfl, a, kvs, (List.range L.length).map nmS, rfl, .inl upd_same, by rw [hK]; simp, by simp; omega, fun ys p hperm _ hp => ⟨p, rfl, ⟨_, SqL.of upd_same⟩, ?_⟩⟩
      refine for_it (walk_list (K := K) (a := p) (xs := ys.map V.str)) (fun i σ Hy => ∃ z, σ = [some (.ref a), z] ∧ SqL K Hy p (ys.map V.str) ∧ Same H Hy) ⟨z, rfl, SqL.of upd_same, h2.trans (same_new hp)⟩ (fun i σ Hy _ ⟨_, _, h, _⟩ => h) ?_ ?_
      · rintro i x σ Hy Hz hi ⟨z, rfl, h3, h4⟩ ⟨rfl, ex⟩
        rw [List.getElem?_map] at ex
        obtain ⟨nm, en, rfl⟩ := Option.map_eq_some_iff.mp ex
        have hm := hperm.mem_iff.mp (List.mem_of_getElem? en)
        obtain ⟨j, hj, rfl⟩ := List.mem_map.mp hm
        have hj' : j < L.length := List.mem_range.mp hj
        obtain ⟨a', u', ea, hg, hd⟩ := looms_get (hL.mono h4) ok.three hj'
        cases ea
        refine ⟨_, rfl, _, rfl, a, _, rfl, hg, _, rfl, u', _, L, L.at j, rfl, hd, hL.mono h4, ok.three, fun sd c e => call_lt ok e, steps_le ok j, fun H4 s4 => ⟨true, rfl, iteF ?_⟩⟩
        exact ⟨_, rfl, s4.seq h3, h4.trans s4⟩
      · rintro σ Hy ⟨z, rfl, h3, h4⟩
        exact k _ h4
def spCheckName (K : PySem.W.Frag) : Sp := fun vs H Q _ => ∃ (u : V) (L : Looms) (i : Nat), vs = [u, .str (nmS i)] ∧ LoomsAt K H u L ∧ LOk L ∧ i < L.length ∧ Ret H Q .non
theorem ok_checkName (T : Txt K mg D) : FnOk P w K mg base CX0 4 (D.d 21).f (D.d 21).fd ["looms", "name"] (spCheckName K) := by
  refine T.w21.F.ok scCheckName (fun vs H Q E h => ?_) (fun cdv A outer s H vs Q E hr h => ?_)
  · obtain ⟨a, s, i, rfl, _⟩ := h
    rfl
  · obtain ⟨u, L, i, rfl, hL, ok, hi, k⟩ := h
    refine ⟨_, (pss_cons (ps_expr (pe_call (ok_checkLooms T) (hr.mono (by decide)) (by rfl) T.w20.m T.w20.F.kp T.w20.B .nil pass0 (pa_cons (pv 0) pa_nil)))
      (pss_one (ps_if (PW.pt (pw_or (pt_not (pt_val (pe_callB call_isi (by rfl) T.isinstance boot_isinstance (pa_cons (pv 1) (pa_cons (pe_bltn (v := .ty "str") (by rfl) T.str boot_str rfl) pa_nil))))) (pw_or1 (pt_cmp (pc_dnotin (hu_of hr) (pv 1) (pv 0)) (by rfl))))) (pss_one ps_never) pss_nil))), ?_⟩
    refine ⟨_, rfl, u, L, rfl, hL, ok, fun H1 s1 => ?_⟩
    obtain ⟨a, u', rfl, hg, _⟩ := looms_get (hL.mono s1) ok.three hi
    refine ⟨_, rfl, _, _, _, _, true, rfl, .ty _, .base (.str _), kit_ty (by decide +kernel), true, rfl, iteF ?_⟩
    exact ⟨_, rfl, _, rfl, a, _, rfl, hg, false, rfl, iteF (k _ s1)⟩
end
end K6
set_option Elab.async false
set_option linter.all false
set_option maxRecDepth 100000
set_option maxHeartbeats 1000000
namespace K6
open PySem PySem.Spec PyProof.Rows L2
section
variable {X : Cx}
/-! ### match over written texts -/
structure PMs (X : Cx) (cs : List MatchCase) (t : V → TS) : Prop where
  run : ∀ (pins : List (Addr × Obj)) (s : Shared) (σ : L2.St) (H : Hp) (D : Ends) (v : V) (u : Value) (b : Bool), Inv X pins σ H s → RelV v u → t v D σ H → wpAny (model X.prog X.w) X.A (matchCases cs X.env u b) (SP X pins D) X.xe s
theorem pm_nil : PMs X [] (fun _ D σ H => D.nx σ H) := ⟨fun pins s σ H D v u b I _ h => wpAny_matchCases_nil ⟨σ, H, I, h⟩⟩
def tMatV (te : TE) (tb : TS) (tr : V → TS) : V → TS := fun v D σ H => te σ H fun y H1 => scal v y = true ∧ if decide (v = y) = true then tb D σ H1 else tr v D σ H1
theorem pm_val {value : Expr} {vp : PySem.Pos} {body : List Stmt} {rest : List MatchCase} {te : TE} {tb : TS} {tr : V → TS} (he : PE X value te) (hb : PSs X body tb) (hr : PMs X rest tr) :
    PMs X (⟨.MatchValue value vp, none, body⟩ :: rest) (tMatV te tb tr) := by
  refine ⟨fun pins s σ H D v u b I rv h => wpAny_matchCases_cons (wpAny_matchPattern_Value ?_)⟩
  refine thn (he.run pins s σ H _ I h) fun u1 s1 ⟨y, H1, I1, ry, hs, q⟩ => ?_
  refine thn (op_eq pins s1 σ H1 v y u u1 (fun x H2 => x = .bl (decide (v = y)) ∧ H2 = H1) I1 rv ry ⟨hs, rfl, rfl⟩) fun c s2 ⟨x, H2, I2, rx, ex, eH⟩ => ?_
  subst ex
  subst eH
  cases rx
  refine wpAny_truthy_bool ?_
  by_cases hd : v = y
  · rw [decide_eq_true hd] at q ⊢
    show wpAny _ _ (assignInOrder [] []) _ _ _
    refine wpAny_assignInOrder_none ?_
    exact hb.run pins s2 σ H2 D I2 q
  · rw [decide_eq_false hd] at q ⊢
    exact hr.run pins s2 σ H2 D v u false I2 rv q
theorem pm_any {body : List Stmt} {vp : PySem.Pos} {rest : List MatchCase} {tb : TS} (hb : PSs X body tb) : PMs X (⟨.MatchAs none none vp, none, body⟩ :: rest) (fun _ => tb) := by
  refine ⟨fun pins s σ H D v u b I rv h => wpAny_matchCases_cons (wpAny_matchPattern_Capture ?_)⟩
  show wpAny _ _ (assignInOrder [] []) _ _ _
  exact wpAny_assignInOrder_none (hb.run pins s σ H D I h)
def tMatch (te : TE) (t : V → TS) : TS := fun D σ H => te σ H fun v H1 => t v D σ H1
theorem ps_match {subj : Expr} {cs : List MatchCase} {pos : PySem.Pos} {te : TE} {t : V → TS} (he : PE X subj te) (hc : PMs X cs t) : PS X (.Match subj cs pos) (tMatch te t) :=
  ⟨fun pins s σ H D I h => wpAny_Match (thn (he.run pins s σ H _ I h) fun u s1 ⟨v, H1, I1, rv, q⟩ => hc.run pins s1 σ H1 D v u true I1 rv q)⟩

/-! ### a target that is a field -/
def gAtt (K : PySem.W.Frag) (to : TE) (f : Str) : TG := fun v σ H Q => to σ H fun x H2 => ∃ a C dx fs, x = .ref a ∧ H2 a = some (.ins C dx fs) ∧ Cls K C ∧ NoAttr K C f ∧ fs.length < 1000 ∧ Q σ (upd H2 a (.ins C dx (putF f v fs)))
theorem pg_att {o : Expr} {f : Str} {pos : PySem.Pos} {to : TE} (ho : PE X o to) : PG X (.Attribute o f pos) (gAtt X.K to f) := by
  refine ⟨fun pins s σ H v u Q I r h => ?_⟩
  rw [assign_Attribute]
  refine wpAny_bind (wpAny_holding (thn (ho.run pins s σ H _ I h) fun ov s1 ⟨x, H1, I1, r1, a, C, dx, fs, ex, ea, c, n, l, q⟩ => ?_))
  subst ex
  obtain rfl : ov = Value.ref a := r1
  refine wpAny_bind (wpAny_standAt (wpAny_bind (wpAny_holding (setattr_ok I1 ea c n l r fun s3 I3 => ?_))))
  exact wpAny_release ⟨σ, _, I3, q⟩

/-! ### xs[i] op= e -/
def rGetL : V → V → Hp → VK → Prop := fun o i H Q => ∃ p xs, ∃ (j : Nat) (v : V), o = .ref p ∧ i = .int j ∧ H p = some (.lst xs) ∧ xs[j]? = some v ∧ Q v H
theorem get_list : PGet X rGetL := by
  intro pins s σ H o i ov iv Q I ro ri h
  obtain ⟨p, xs, j, v, rfl, rfl, hp, e, q⟩ := h
  cases ro
  obtain ⟨t, rfl⟩ := ri
  obtain ⟨its, r, pl, hz⟩ := I.list (SqL.of hp)
  obtain ⟨w, ew, rw'⟩ := r.get e
  have hj := (List.getElem?_eq_some_iff.mp ew).1
  have hl := r.length
  have hn := line63
  exact wpAny_getItem_list pl.isList (by omega) (by omega) (by simpa using ew) ⟨v, H, I, rw', q⟩
/-! ### a list against the empty one -/
def rNeNil : R2 := fun x y H Q => ∃ a b xs, x = .ref a ∧ y = .ref b ∧ H a = some (.lst xs) ∧ H b = some (.lst []) ∧ Q (.bl (!xs.isEmpty)) H
theorem op_neNil (hu : X.A.units < cLine) : OpR X (compareOp .NotEq) rNeNil := by
  intro pins s σ H x y v u Q I rx ry h
  obtain ⟨a, b, xs, rfl, rfl, ha, hb, q⟩ := h
  cases rx
  cases ry
  obtain ⟨z, its, n, r, e⟩ := (show ObjOk X.prog X.w H s.heap a (.lst xs) from I.hok a _ ha)
  obtain ⟨z2, its2, n2, r2, e2⟩ := (show ObjOk X.prog X.w H s.heap b (.lst []) from I.hok b _ hb)
  cases r2
  have hl := r.length
  have l1 : s.heap.IsList a its.toArray := ⟨_, e, rfl, _, rfl⟩
  have l2 : s.heap.IsList b ([] : List Value).toArray := ⟨_, e2, rfl, _, rfl⟩
  by_cases hx : xs = []
  · subst hx
    cases r
    exact SeqAt.RcNeAt.lists (e := fun _ => true) l1 l2 rfl hu (fun j h1 _ => absurd h1 (Nat.not_lt_zero _)) _ _ _ _ ⟨.bl _, H, I, rfl, q⟩
  · have hx' : its ≠ [] := fun e => by subst e; exact hx (List.eq_nil_of_length_eq_zero hl)
    have e3 : (!xs.isEmpty) = true := by cases xs with
      | nil => exact absurd rfl hx
      | cons _ _ => rfl
    rw [e3] at q
    exact SeqAt.RcNeAt.lists_lengths l1 l2 (by cases its with
      | nil => exact absurd rfl hx'
      | cons _ _ => simp) hu _ _ _ _ ⟨.bl _, H, I, rfl, q⟩
end
end K6
set_option Elab.async false
set_option linter.all false
set_option maxRecDepth 100000
set_option maxHeartbeats 1000000
namespace HT
open PySem PySem.Spec PyProof.Rows
theorem fm_congr {α β : Type} {f g : α → Option β} : ∀ {l : List α}, (∀ a ∈ l, f a = g a) → l.filterMap f = l.filterMap g
  | [], _ => rfl
  | a :: l, h => by
    rw [List.filterMap_cons, List.filterMap_cons, h a List.mem_cons_self, fm_congr fun b hb => h b (List.mem_cons_of_mem _ hb)]
theorem back_places (n : Nat) : Builtin.Slice.slicePlaces ((n : Int) - 1) (-1) (-1) = n := by
  unfold Builtin.Slice.slicePlaces
  have h1 : ¬ ((-1 : Int) > 0) := by decide
  simp only [h1, if_false]
  by_cases h : (n : Int) - 1 > -1
  · rw [if_pos h, show (- -1 : Int) = 1 by decide, Int.ediv_one]
    omega
  · rw [if_neg h]
    omega
theorem back_pick (xs : Array Value) : ((List.range xs.size).filterMap fun (m : Nat) => xs[((xs.size : Int) - 1 + (m : Int) * (-1)).toNat]?).toArray = xs.toList.reverse.toArray := by
  have e : (List.range xs.size).filterMap (fun (m : Nat) => xs[((xs.size : Int) - 1 + (m : Int) * (-1)).toNat]?) = ((List.range xs.size).map (fun k => xs.size - 1 - k)).filterMap (fun j => xs[j]?) := by
    rw [List.filterMap_map]
    refine fm_congr fun m hm => ?_
    have hm' := List.mem_range.mp hm
    show xs[((xs.size : Int) - 1 + (m : Int) * (-1)).toNat]? = xs[xs.size - 1 - m]?
    congr 1
    omega
  rw [e]
  have := PySem.W.krv_pick xs
  unfold slicePick at this
  rw [PySem.W.krv_bounds] at this
  dsimp only at this
  rw [PySem.W.krv_sliceRange] at this
  exact this
section
variable {prog : Program} {w : World} {A : Around} {E : Value → Shared → Prop} {s : Shared}
theorem sliceApplied_back {sl : Addr} {vs : Value} {n : Nat} {Q : Int × Int × Nat → Shared → Prop} (hs : s.heap.IsSliceOf sl .none .none vs) (ps : IsPart vs (some (-1)))
    (h : Q ((n : Int) - 1, -1, n) s) : wpAny (model prog w) A (Builtin.Slice.sliceApplied (.ref sl) (pure (n : Int))) Q E s := by
  obtain ⟨os, hos, hcs, hds⟩ := id hs
  unfold Builtin.Slice.sliceApplied Builtin.Slice.sliceFields
  refine wpAny_bind (wpAny_bind (wpAny_field hos hds (x := .none) rfl (wpAny_bind (wpAny_field hos hds (x := .none) rfl (wpAny_bind (wpAny_field hos hds (x := vs) rfl (wpAny_pure ?_)))))))
  refine wpAny_bind (slicePart_ ps ?_)
  show wpAny _ _ (if ((-1 : Int) == 0) = true then _ else _) _ _ s
  rw [if_neg (by decide)]
  refine wpAny_bind (slicePart_ .none (wpAny_bind (slicePart_ .none (wpAny_bind (wpAny_pure ?_)))))
  show wpAny _ _ (pure ((n : Int) - 1, (-1 : Int), Builtin.Slice.slicePlaces ((n : Int) - 1) (-1) (-1))) _ _ s
  rw [back_places]
  exact wpAny_pure h
theorem getItem_tuple_back {t sl : Addr} {items : Array Value} {vs : Value} {Q : Value → Shared → Prop} (ht : IsTup s.heap t items) (hs : s.heap.IsSliceOf sl .none .none vs) (ps : IsPart vs (some (-1)))
    (h : Q (.ref s.heap.objs.size) { s with heap := s.heap.push { cls := .type "tuple", data := .seq items.toList.reverse.toArray } }) (hsz : items.size ≤ sizeLine) : wpAny (model prog w) A (getItem (.ref t) (.ref sl)) Q E s := by
  have hok : sizeOk (.seq items.toList.reverse.toArray) := by
    show items.toList.reverse.toArray.size ≤ sizeLine
    simpa using hsz
  obtain ⟨os, hos, hcs, hds⟩ := id hs
  have hTs : s.TypeIs (.ref sl) "slice" := ⟨os, hos, hcs⟩
  unfold getItem
  try with_reducible refine wpAny_holding ?_
  first | refine wpAny_bind (wpAny_pure ?_) | skip
  refine wpAny_bind (wpAny_sequenceKey ht.typeIs (by decide) ?_)
  refine wpAny_bind (wpAny_callSpecial?_slot (name := Str.ofString "__getitem__") ht.typeIs PyProof.Rows.slot_tuple_getitem
    (wpAny_call_entry PyProof.Rows.slot_tuple_getitem ht.typeIs entry_tuple_getitem ?_ (args_tuple_getitem _ _)))
  show wpAny _ _ (Builtin.Tuple.tupleItemsOf (.ref t) >>= _) _ _ s
  refine wpAny_bind (tupleItemsOf_ ht ?_)
  refine wpAny_bind (wpAny_typeOf hTs ?_)
  rw [if_pos (by decide)]
  refine wpAny_bind (sliceApplied_back hs ps ?_)
  have hno : ¬ (((items.size : Int) - 1 == 0 && (-1 : Int) == 1 && items.size == items.size) = true) := by
    intro q
    rw [Bool.and_eq_true, Bool.and_eq_true] at q
    exact absurd q.1.2 (by decide)
  show wpAny _ _ (if ((items.size : Int) - 1 == 0 && (-1 : Int) == 1 && items.size == items.size) = true then _ else _) _ _ s
  rw [if_neg hno, back_pick]
  first
    | exact wpAny_bind (m := Builtin.Tuple.tupleExact _) (wpAny_newObj_type (wpAny_pure ⟨_, rfl, wpAny_pure h⟩) hok)
    | exact wpAny_bind (m := Builtin.Tuple.tupleExact _) (wpAny_newObj_type (wpAny_bind (wpAny_pure (wpAny_pure ⟨_, rfl, wpAny_pure h⟩))) hok)
    | exact wpAny_bind (wpAny_bind (m := Builtin.Tuple.tupleExact _) (wpAny_newObj_type (wpAny_pure (wpAny_pure ⟨_, rfl, wpAny_pure h⟩)) hok))
    | exact wpAny_bind (wpAny_bind (m := Builtin.Tuple.tupleExact _) (wpAny_newObj_type (wpAny_pure ⟨_, rfl, wpAny_pure h⟩) hok))
end
end HT
namespace K6
open PySem PySem.Spec PyProof.Rows L2
section
variable {X : Cx}
/-! ### t[::-1] of a tuple -/
def tRevT (K : PySem.W.Frag) (te : TE) : TE := fun σ H Q => te σ H fun x H1 => ∃ a xs, x = .ref a ∧ SqT K H1 a xs ∧ ∀ p, H1 p = none → Q (.ref p) (upd H1 p (.tup xs.reverse))
theorem pe_revT {e : Expr} {te : TE} {k : Nat} {p1 p2 p3 pos : PySem.Pos} (he : PE X e te) : PE X (.Subscript e (.Slice none none (some (.UnaryOp .USub (.Constant (.int 1) k p1) p2)) p3) pos) (tRevT X.K te) := by
  refine ⟨fun pins s σ H Q I h => ?_⟩
  refine Subscript_ (thn (he.run pins s σ H _ I h) fun v s1 ⟨x, H1, I1, r1, q1⟩ => ?_)
  obtain ⟨a, xs, ex, hx, q⟩ := q1
  subst ex
  cases r1
  have hst : PO X (some (.UnaryOp .USub (.Constant (.int 1) k p1) p2)) (tPart (tUn (rU fun i => .int (-i)) (tC (.int 1)))) := po_some (pe_un un_neg pe_int)
  refine wpAny_Slice (thn (po_none.run pins s1 σ H1 (fun o H2 => o = none ∧ H2 = H1) I1 ⟨rfl, rfl⟩) fun vl s2 ⟨l, H2, I2, pl, el, e2⟩ => ?_)
  subst el e2
  refine thn (po_none.run pins s2 σ H2 (fun o H3 => o = none ∧ H3 = H2) I2 ⟨rfl, rfl⟩) fun vu s3 ⟨u, H3, I3, pu, eu, e3⟩ => ?_
  subst eu e3
  refine thn (hst.run pins s3 σ H3 (fun o H4 => o = some (-1) ∧ H4 = H3) I3 ⟨1, rfl, -1, rfl, rfl, rfl⟩) fun vs s4 ⟨o, H4, I4, ps, eo, e4⟩ => ?_
  subst eo e4
  have evl : vl = .none := by cases pl; rfl
  have evu : vu = .none := by cases pu; rfl
  subst evl evu
  have I5 : Inv X pins σ H4 { s4 with heap := s4.heap.push { cls := .type "slice", data := .fields #[.none, .none, vs] } } := I4.kept (t' := s4.toks) fun b ob q => Heap.get?_push_of_some _ q
  obtain ⟨its, r, ht, hz⟩ := I5.tuple hx
  have hlen := r.length
  show wpAny (model X.prog X.w) X.A (subscriptTail e (.Slice none none (some (.UnaryOp .USub (.Constant (.int 1) k p1) p2)) p3) (.ref a) (.ref s4.heap.objs.size)) (EP X pins σ Q) X.xe { s4 with heap := s4.heap.push { cls := .type "slice", data := .fields #[.none, .none, vs] } }
  refine tail_any (ops := [.ref a, .ref s4.heap.objs.size]) ht.typeIs (PyProof.Rows.slot_tuple_getitem.lookup) ?_ (by with_unfolding_all rfl)
  refine HT.getItem_tuple_back ht (Heap.IsSliceOf.new _ .none .none vs) ps ?_ (by rw [List.size_toArray]; omega)
  refine ⟨.ref _, _, I5.laid (t' := s4.toks) (o := .tup xs.reverse) (fun b ob q => Heap.get?_push_of_some _ q) (Nat.le_refl _) ?_, rfl, q _ (I5.hok.fresh (Nat.le_refl _))⟩
  exact ⟨by rw [List.length_reverse]; exact hz, _, r.reverse, IsTup.new _ _⟩
end
end K6
set_option Elab.async false
set_option linter.all false
set_option maxRecDepth 100000
set_option maxHeartbeats 1000000
namespace K6
open PySem PySem.Spec PyProof.Rows L2
section
variable {X : Cx}
def ipC (C : Int → Int → Prop) (f : Int → Int → Int) : TIp := fun x y H Q => ∃ i j, x = .int i ∧ y = .int j ∧ C i j ∧ Q (.int (f i j)) H
theorem ip_fdiv : PIp X .FloorDiv (ipC CDiv fun i j => i / j) := by
  intro pins s σ H x y v u Q I r1 r2 h
  obtain ⟨i, j, rfl, rfl, ⟨c1, c2⟩, q⟩ := h
  obtain ⟨t, rfl⟩ := r1
  obtain ⟨t', rfl⟩ := r2
  refine PySem.AutoIntOps.ifloordiv_1 (by simp; omega) (by rw [PyProof.noPylong_small (by omega)]; decide) ?_
  rw [Int.fdiv_eq_ediv_of_nonneg i (by omega)]
  exact ⟨.int _, H, I.tok _, ⟨_, rfl⟩, q⟩
theorem ip_mul : PIp X .Mult (ipC CMul fun i j => i * j) := by
  intro pins s σ H x y v u Q I r1 r2 h
  obtain ⟨i, j, rfl, rfl, c, q⟩ := h
  obtain ⟨t, rfl⟩ := r1
  obtain ⟨t', rfl⟩ := r2
  exact PySem.AutoIntOps.imul_0 ⟨.int _, H, I.tok _, ⟨_, rfl⟩, q⟩ c.ok
end
end K6
set_option Elab.async false
set_option linter.all false
set_option maxRecDepth 100000
set_option maxHeartbeats 2000000
namespace SrtO
open PySem PySem.Spec PyProof.Rows Srt
section
variable {prog : Program} {w : World} {A : Around} {E : Value → Shared → Prop} {s : Shared}
theorem collect_tup {l : Addr} {vs : List Value} {Q : List Value → Shared → Prop} (hl : IsTup s.heap l vs.toArray)
    (h : Q vs { s with heap := (s.heap.push (seqObj "list" #[] 0)).update s.heap.objs.size (Obj.mapSeq (· ++ vs.toArray)) }) (hsz : vs.length ≤ sizeLine) :
    wpAny (model prog w) A (collect (.ref l)) Q E s := by
  obtain ⟨o, ho, hc, n, hd⟩ := id hl
  unfold collect
  refine wpAny_bind (wpAny_runValue (codeAny_builtin entry_proto_collect' ?_))
  show wpAny _ _ (do again (.builtin "list.__iadd__" ⟨[← newList [], .ref l], []⟩)) _ _ s
  refine wpAny_bind (wpAny_newList (wpAny_pure ⟨Code.quiet_builtin _ (by decide +kernel), codeAny_builtin entry_list_iadd' ?_⟩))
  show wpAny _ _ (Builtin.List.listExtendWith (.ref s.heap.objs.size) (.ref l) (.ref s.heap.objs.size)) _ _ { s with heap := s.heap.push (seqObj "list" #[] 0) }
  unfold Builtin.List.listExtendWith
  have ho' : (s.heap.push (seqObj "list" #[] 0)).get? l = some o := Heap.get?_push_of_some _ ho
  refine wpAny_bind (wpAny_typeOf (T := "tuple") ⟨o, ho', hc⟩ ?_)
  have ht : (Value.type "tuple" == Value.type "tuple") = true := by rfl
  rw [if_pos (by rw [ht]; simp)]
  refine wpAny_bind (listItems_at ho' hd ?_)
  refine wpAny_bind (listItems_at (xs := #[]) (n := 0) (Heap.get?_push_size _ rfl) rfl ?_)
  rw [if_neg (by simp)]
  refine wpAny_bind (listUpdate_at (xs := #[]) (n := 0) (Heap.get?_push_size _ rfl) rfl ?_ (Nat.zero_le _) (by show (#[] ++ vs.toArray).size ≤ sizeLine + 1; simp only [Array.size_append, List.size_toArray, List.length_nil]; omega))
  refine wpAny_pure ?_
  show wpAny (model prog w) A (do
      let o ← load s.heap.objs.size
      match o.data with
      | .seq xs _ => pure xs.toList
      | _ => unsupported "internal:collect") Q E { s with heap := (s.heap.push (seqObj "list" #[] 0)).update s.heap.objs.size (Obj.mapSeq (· ++ vs.toArray)) }
  refine wpAny_bind (wpAny_load (get?_update_seq (Heap.get?_push_size _ rfl) _) ?_)
  show wpAny _ _ (pure ((#[] : Array Value) ++ vs.toArray).toList) Q E _
  rw [show ((#[] : Array Value) ++ vs.toArray).toList = vs by simp]
  exact wpAny_pure h
theorem sorted_ordT {l : Addr} {vs : List Value} {ltv : Value → Value → Bool} {Q : Value → Shared → Prop} (O : Swo ltv) (hl : IsTup s.heap l vs.toArray) (hz : vs.length ≤ sizeLine)
    (hS : 2 ≤ vs.length → ∀ (h₁ : Heap) (a : Addr), h₁.get? a = some (seqObj "list" vs.toArray 0) → (∀ b o, s.heap.get? b = some o → b ≠ a ∧ h₁.get? b = some o) → SortableO prog w A.in1.in1 { s with heap := h₁ } a vs ltv)
    (h : ∀ out : List Value, Srtd ltv out → Stb ltv out vs → Q (.ref (s.heap.objs.size + 1)) { s with heap := sortedAll s.heap vs out.toArray }) :
    wpAny (model prog w) A (call (.builtin "sorted") [.ref l]) Q E s := by
  refine Calls.call_function_entry kind_sorted plain_sorted entry_sorted (args_sorted1 _) ?_
  unfold Builtin.«sorted»
  refine wpAny_bind (m := checkCount "sorted" 1 1 _) (wpAny_pure ?_)
  refine wpAny_bind (collect_tup hl ?_ hz)
  refine wpAny_bind (wpAny_newList ?_ hz)
  have hsz : ((s.heap.push (seqObj "list" #[] 0)).update s.heap.objs.size (Obj.mapSeq (· ++ vs.toArray))).objs.size = s.heap.objs.size + 1 := by
    rw [Heap.size_update, size_push']
  have hoL : (((s.heap.push (seqObj "list" #[] 0)).update s.heap.objs.size (Obj.mapSeq (· ++ vs.toArray))).push (seqObj "list" vs.toArray 0)).get? (s.heap.objs.size + 1) = some (seqObj "list" vs.toArray 0) := by
    rw [← hsz]; exact Heap.get?_push_size _ rfl
  have keep : ∀ b o, s.heap.get? b = some o → b ≠ s.heap.objs.size + 1 ∧ (((s.heap.push (seqObj "list" #[] 0)).update s.heap.objs.size (Obj.mapSeq (· ++ vs.toArray))).push (seqObj "list" vs.toArray 0)).get? b = some o := fun b o q => by
    have hlt : b < s.heap.objs.size := Heap.lt_size q
    refine ⟨Nat.ne_of_lt (Nat.lt_succ_of_lt hlt), Heap.get?_push_of_some _ ?_⟩
    rw [Heap.get?_update_ne _ _ _ _ (Nat.ne_of_lt hlt)]
    exact Heap.get?_push_of_some _ q
  show wpAny _ _ _ _ _ { s with heap := ((s.heap.push (seqObj "list" #[] 0)).update s.heap.objs.size (Obj.mapSeq (· ++ vs.toArray))).push (seqObj "list" vs.toArray 0) }
  rw [hsz]
  refine wpAny_bind (wpAny_holding (wpAny_call_entry slot_list_sort ⟨_, hoL, rfl⟩ entry_list_sort (list_sort_ord O hoL hz (fun h2 => hS h2 _ _ hoL keep) fun out hs hb => ⟨_, rfl, ?_⟩) (args_list_sort _)))
  exact wpAny_pure ⟨_, rfl, h out hs hb⟩
end
end SrtO
namespace K6
open PySem PySem.Spec PyProof.Rows L2
section
variable {X : Cx}
/-- sorted(xs), ints, a list or a tuple -/
def rSortedIT (K : PySem.W.Frag) : List V → Hp → VK → Prop := fun vs H Q => ∃ (a : Addr) (ns : List Int), vs = [V.ref a] ∧ (SqL K H a (ns.map V.int) ∨ SqT K H a (ns.map V.int)) ∧
  ∀ (ns' : List Int) (p : Addr), ns'.Perm ns → ns'.Pairwise (· ≤ ·) → H p = none → Q (.ref p) (upd H p (.lst (ns'.map V.int)))
theorem cr_sortedIT : CallR X (.builtin "sorted") (rSortedIT X.K) := by
  intro pins s σ H vs us Q I r h
  obtain ⟨a, ns, rfl, hs | hs, q⟩ := h
  · exact cr_sortedI pins s σ H _ us Q I r ⟨a, ns, rfl, hs, q⟩
  obtain ⟨its, rv, hl, hz⟩ := I.tuple hs
  rw [Vals.ref1 r]
  have hi := rv.ints
  refine SrtO.sorted_ordT SrtO.swo_int hl (by rw [← rv.length]; exact hz) (fun h2 h₁ a' _ _ => SrtO.ints_sortable hi h2) fun out h1 h2 => ?_
  obtain ⟨k1, k2, k3⟩ := SrtO.ints_out hi h1 h2
  obtain ⟨ep, he'⟩ := PyProof.Rows.sortedAll_at s.heap its out.toArray
  have hlen : ((out.map SrtO.iv).map V.int).length ≤ sizeLine := by
    rw [List.length_map, k2.length_eq]
    rw [List.length_map] at hz
    exact hz
  exact ⟨.ref _, upd H (s.heap.objs.size + 1) (.lst ((out.map SrtO.iv).map V.int)), I.laid (t' := s.toks) (fun _ _ => PyProof.Rows.sortedAll_old) (Nat.le_succ _) ⟨hlen, out, ep, vals_of_ints k1, he'⟩, rfl, q _ _ k2 k3 (I.hok.fresh (Nat.le_succ _))⟩
/-- sorted(xs) of a list that tells data alike -/
def rSortedD (K : PySem.W.Frag) {β : Type} (enc : β → PyData) : List V → Hp → VK → Prop := fun vs H Q => ∃ (a : Addr) (xs : List V) (bs : List β), vs = [V.ref a] ∧ SqL K H a xs ∧ DpAll K H xs (bs.map enc) ∧ (∀ b ∈ bs, ∃ x r, enc b = .tuple (x :: r)) ∧ PySem.W.AllAlike (bs.map enc) ∧ (∀ b ∈ bs, (enc b).depth ≤ 8) ∧
  ∀ (cs : List β) (ys : List V) (p : Addr), cs.Perm bs → DpAll K H ys (cs.map enc) → H p = none → Q (.ref p) (upd H p (.lst ys))
theorem each_of {K : PySem.W.Frag} {H : Hp} {s : Shared} {σ : L2.St} {pins : List (Addr × Obj)} (hK : X.K = K) (I : Inv X pins σ H s) {β : Type} {enc : β → PyData} (tp : ∀ b, ∀ v, Dp K H v (enc b) → ∃ a, v = .ref a) : ∀ {xs : List V} {us : List Value} {bs : List β}, DpAll K H xs (bs.map enc) → Vals xs us →
    PySem.W.EachIs (fun u b => ∃ a, u = Value.ref a ∧ Dp K H (.ref a) (enc b)) us bs ∧ PySem.W.EachIs (fun v b => ∃ as, Reads s.heap v (enc b) as) us bs
  | _, _, [], h, r => by cases h; cases r; exact ⟨.nil, .nil⟩
  | _, _, b :: bs, h, r => by
    cases h with
    | cons h1 h2 =>
      cases r with
      | cons r1 r2 =>
        obtain ⟨q1, q2⟩ := each_of hK I tp h2 r2
        obtain ⟨a, rfl⟩ := tp b _ h1
        have e1 := r1
        cases r1
        subst hK
        exact ⟨.cons ⟨a, rfl, h1⟩ q1, .cons (Dp.reads I _ _ _ h1 e1) q2⟩
theorem vals_of_each {K : PySem.W.Frag} {H : Hp} {β : Type} {enc : β → PyData} : ∀ {us : List Value} {bs : List β}, PySem.W.EachIs (fun u b => ∃ a, u = Value.ref a ∧ Dp K H (.ref a) (enc b)) us bs → ∃ ys, DpAll K H ys (bs.map enc) ∧ Vals ys us
  | _, _, .nil => ⟨[], .nil, .nil⟩
  | _, _, .cons ⟨a, e, h⟩ t => by
    obtain ⟨ys, q1, q2⟩ := vals_of_each t
    subst e
    exact ⟨.ref a :: ys, .cons h q1, .cons rfl q2⟩
theorem cr_sortedD {β : Type} {enc : β → PyData} (hu : X.A.units + 64 < cLine) (tp : ∀ b, ∃ ds, enc b = .tuple ds) : CallR X (.builtin "sorted") (rSortedD X.K enc) := by
  intro pins s σ H vs us Q I r h
  obtain ⟨a, xs, bs, rfl, hs, hx, ht, hal, hdp, q⟩ := h
  obtain ⟨its, rv, hl, hz⟩ := I.list hs
  rw [Vals.ref1 r]
  obtain ⟨e1, e2⟩ := each_of rfl I (fun b v hv => by
    obtain ⟨ds, e⟩ := tp b
    rw [e] at hv
    obtain ⟨a, _, rfl, _⟩ := hv.tuple
    exact ⟨a, rfl⟩) hx rv
  have hlb : xs.length = bs.length := by rw [hx.length, List.length_map]
  refine PySem.W.sorted_data hl.isList e1 e2 hal (.inl fun d hd => ?_) (by rw [← hlb]; exact hz) (fun b hb => ?_) fun out l1 l2 => ?_
  · obtain ⟨b, hb, rfl⟩ := List.mem_map.mp hd
    exact ht b hb
  · have := hdp b hb; omega
  obtain ⟨ys, y1, y2⟩ := vals_of_each l2
  obtain ⟨ep, he'⟩ := PyProof.Rows.sortedAll_at s.heap its out.toArray
  have hlen : ys.length ≤ sizeLine := by
    rw [y1.length, List.length_map, (List.mergeSort_perm _ _).length_eq, ← hlb]
    exact hz
  exact ⟨.ref _, upd H (s.heap.objs.size + 1) (.lst ys), I.laid (t' := s.toks) (fun _ _ => PyProof.Rows.sortedAll_old) (Nat.le_succ _) ⟨hlen, out, ep, y2, he'⟩, rfl, q _ _ _ (List.mergeSort_perm _ _) y1 (I.hok.fresh (Nat.le_succ _))⟩
end
/-! ### ways are alike -/
open PySem.W in
theorem alike_ways : ∀ ps qs : List (Nat × Nat), alikeAll (ps.map fun p => PyData.tuple [.int p.1, .int p.2]) (qs.map fun p => PyData.tuple [.int p.1, .int p.2]) = true
  | [], _ => by simp [alikeAll]
  | _ :: _, [] => by simp [alikeAll]
  | p :: ps, q :: qs => by
    show alikeAll (.tuple [.int p.1, .int p.2] :: ps.map fun p => PyData.tuple [.int p.1, .int p.2]) (.tuple [.int q.1, .int q.2] :: qs.map fun p => PyData.tuple [.int p.1, .int p.2]) = true
    rw [alikeAll, alike_ways ps qs]
    simp [alike, alikeAll]
theorem depth_ways : ∀ ps : List (Nat × Nat), PyData.depthAll (ps.map fun p => PyData.tuple [.int p.1, .int p.2]) ≤ 2
  | [] => by simp [PyData.depthAll]
  | p :: ps => by
    show PyData.depthAll (.tuple [.int p.1, .int p.2] :: ps.map fun p => PyData.tuple [.int p.1, .int p.2]) ≤ 2
    have := depth_ways ps
    rw [PyData.depthAll]
    simp [PyData.depth, PyData.depthAll]
    omega
theorem depth_way (p : List (Nat × Nat)) : (wayD p).depth ≤ 8 := by
  have := depth_ways p
  show PyData.depth (.tuple _) ≤ 8
  rw [PyData.depth]
  omega
end K6
set_option Elab.async false
set_option linter.all false
set_option maxRecDepth 100000
set_option maxHeartbeats 2000000
namespace K6
open PySem PySem.Spec PyProof.Rows L2
/-! ### a list or a tuple -/
def SqK (k : Bool) (K : PySem.W.Frag) (H : Hp) (a : Addr) (xs : List V) : Prop := if k = true then SqT K H a xs else SqL K H a xs
def IsSeqK (k : Bool) (h : Heap) (a : Addr) (items : Array Value) : Prop := if k = true then h.IsTuple a items else h.IsList a items
def IsItK (k : Bool) (h : Heap) (it a : Addr) (i : Nat) : Prop := if k = true then h.IsTupleIter it a i else h.IsListIter it a i
def itO (k : Bool) (a : Addr) : Obj := if k = true then { cls := .type "tuple_iterator", data := .fields #[.ref a, .int 0 0] } else { cls := .type "list_iterator", data := .fields #[.ref a, .int 0 0] }
theorem beginsK (k : Bool) (a : Addr) (items : Array Value) : Begins (.ref a) (itO k a) fun h => IsSeqK k h a items := by
  cases k
  · exact begins_list a items
  · exact begins_tuple a items
theorem drawsK {prog : Program} {w : World} {A : Around} (k : Bool) (hh : A.handled = none) (it a : Addr) (hne : a ≠ it) (items : Array Value) :
    Draws prog w A it [it, a] items.size (fun i v => items[i]? = some v) (fun i h => IsItK k h it a i ∧ IsSeqK k h a items) := by
  cases k
  · exact Draws.list hh it a hne items
  · exact Draws.tuple hh it a hne items
theorem IsItK.obj {k : Bool} {h : Heap} {it a : Addr} {i : Nat} (x : IsItK k h it a i) : ∃ o, h.get? it = some o ∧ ∀ v, o.data ≠ .cell v := by
  cases k
  · obtain ⟨o, e, _, d⟩ := (show h.IsListIter it a i from x)
    exact ⟨o, e, fun v q => by rw [d] at q; cases q⟩
  · obtain ⟨o, e, _, d⟩ := (show h.IsTupleIter it a i from x)
    exact ⟨o, e, fun v q => by rw [d] at q; cases q⟩
theorem IsItK.at {k : Bool} {h h' : Heap} {it a : Addr} {i : Nat} (x : IsItK k h it a i) (e : ∀ o, h.get? it = some o → h'.get? it = some o) : IsItK k h' it a i := by
  cases k
  · exact (show h.IsListIter it a i from x).at e
  · exact (show h.IsTupleIter it a i from x).at e
theorem itO_is (k : Bool) {h : Heap} {it a : Addr} (e : h.get? it = some (itO k a)) : IsItK k h it a 0 := by
  cases k
  · exact ⟨_, e, rfl, rfl⟩
  · exact ⟨_, e, rfl, rfl⟩
section
variable {X : Cx} {pins : List (Addr × Obj)} {σ : L2.St} {H : Hp} {s : Shared}
theorem inv_seqK (I : Inv X pins σ H s) {k : Bool} {a : Addr} {xs : List V} (h : SqK k X.K H a xs) : ∃ its : List Value, Vals xs its ∧ IsSeqK k s.heap a its.toArray ∧ a < s.heap.objs.size ∧ xs.length ≤ sizeLine := by
  cases k
  · obtain ⟨its, rv, p, hz⟩ := I.list (show SqL X.K H a xs from h)
    exact ⟨its, rv, p.isList, p.lt, hz⟩
  · obtain ⟨its, rv, p, hz⟩ := I.tuple (show SqT X.K H a xs from h)
    obtain ⟨o1, ho1, _⟩ := id p
    exact ⟨its, rv, (show s.heap.IsTuple a its.toArray from p), Heap.lt_size ho1, hz⟩
theorem inv_injK (I : Inv X pins σ H s) {k : Bool} {a : Addr} {xs ys : List V} (h1 : SqK k X.K H a xs) (h2 : SqK k X.K H a ys) : xs = ys := by
  cases k
  · exact I.list_inj h1 h2
  · exact I.tuple_inj h1 h2
end
def SqA (K : PySem.W.Frag) (H : Hp) (a : Addr) (xs : List V) : Prop := SqL K H a xs ∨ SqT K H a xs
theorem SqA.mono {K : PySem.W.Frag} {H H' : Hp} {a : Addr} {xs : List V} (e : Same H H') (h : SqA K H a xs) : SqA K H' a xs := by
  rcases h with h | h
  · exact .inl (e.seq h)
  · exact .inr (tupS e h)
/-! ### for over a list or a tuple -/
def iSeq (K : PySem.W.Frag) (tl : TE) : TI := fun σ H R => tl σ H fun x H1 => ∃ a, x = .ref a ∧ (((∃ xs, SqL K H1 a xs) ∧ R (Itl K a) H1) ∨ ((∃ xs, SqT K H1 a xs) ∧ R (Itt K a) H1))
theorem pi_seq {X : Cx} {tg l : Expr} {tl : TE} (hl : PE X l tl) : PI X tg l (iSeq X.K tl) := by
  refine ⟨fun pins s σ H R I h => ?_⟩
  refine thn (hl.run pins s σ H _ I h) fun v s1 ⟨x, H1, I1, r1, q1⟩ => ?_
  obtain ⟨a, e, ⟨⟨xs, hq⟩, q⟩ | ⟨⟨xs, hq⟩, q⟩⟩ := q1
  · subst e
    cases r1
    obtain ⟨its, rv, p, hz⟩ := I1.list hq
    refine wpAny_pyIter_list p.isList ?_
    refine ⟨s1.heap.objs.size, [s1.heap.objs.size], _, _, H1, rfl, I1.kept (t' := s1.toks) fun b o e => Heap.get?_push_of_some _ e, turn_list a _, ⟨_, Heap.get?_push_size _ rfl, rfl, rfl⟩, fun b hb => ?_, q⟩
    have e : b = s1.heap.objs.size := by simpa using hb
    subst e
    exact I1.fpOk (Nat.le_refl _) (I1.hok.fresh (Nat.le_refl _))
  · subst e
    cases r1
    obtain ⟨its, rv, p, hz⟩ := I1.tuple hq
    refine wpAny_pyIter_tuple (show s1.heap.IsTuple a its.toArray from p) ?_
    refine ⟨s1.heap.objs.size, [s1.heap.objs.size], _, _, H1, rfl, I1.kept (t' := s1.toks) fun b o e => Heap.get?_push_of_some _ e, turn_tuple a _, ⟨_, Heap.get?_push_size _ rfl, rfl, rfl⟩, fun b hb => ?_, q⟩
    have e : b = s1.heap.objs.size := by simpa using hb
    subst e
    exact I1.fpOk (Nat.le_refl _) (I1.hok.fresh (Nat.le_refl _))
/-! ### zip of a list or a tuple with a list or a tuple -/
def ItzM (k1 k2 : Bool) (K : PySem.W.Frag) (a b : Addr) : It :=
  ⟨fun i H => ∃ (xs ys : List V) (x y : V), SqK k1 K H a xs ∧ SqK k2 K H b ys ∧ xs[i]? = some x ∧ ys[i]? = some y,
    fun i H v H' => ∃ T x y, v = .ref T ∧ H T = none ∧ H' = upd H T (.tup [x, y]) ∧ (∀ xs, SqK k1 K H a xs → xs[i]? = some x) ∧ ∀ ys, SqK k2 K H b ys → ys[i]? = some y,
    fun i H => ∃ xs ys : List V, SqK k1 K H a xs ∧ SqK k2 K H b ys ∧ i ≤ xs.length ∧ i ≤ ys.length ∧ (i = xs.length ∨ i = ys.length)⟩
theorem turn_zipM {P : Program} {w : World} {K : PySem.W.Frag} {elts : List Expr} {kk : Nat} {tpos : PySem.Pos} {k1 k2 : Bool} {a b z TI TO i1 i2 : Addr} (D : ZipSep2 z TI TO i1 i2 [i1, a] [i2, b]) (ha : a ≠ i1) (hb : b ≠ i2) :
    Turn P w K (.Tuple elts kk tpos) (ItzM k1 k2 K a b) [z, TI, TO, i1, i2] z (fun i h => IsZip h z TI TO .none ∧ IsPair h TI (.ref i1) (.ref i2) ∧ (∃ x y, IsPair h TO x y) ∧ IsItK k1 h i1 a i ∧ IsItK k2 h i2 b i) where
  mem := by simp
  obj := fun i h st c hc => by
    obtain ⟨hz, hTI, ⟨x, y, hTO⟩, h1, h2⟩ := st
    have e' : c = z ∨ c = TI ∨ c = TO ∨ c = i1 ∨ c = i2 := by simpa using hc
    rcases e' with q | q | q | q | q
    · rw [q]; exact ⟨_, hz, fun v q => nomatch q⟩
    · rw [q]; exact ⟨_, hTI, fun v q => nomatch q⟩
    · rw [q]; exact ⟨_, hTO, fun v q => nomatch q⟩
    · rw [q]; exact h1.obj
    · rw [q]; exact h2.obj
  keep := fun i h h' st k => by
    obtain ⟨hz, hTI, ⟨x, y, hTO⟩, h1, h2⟩ := st
    exact ⟨k z (by simp) _ hz, k TI (by simp) _ hTI, ⟨x, y, k TO (by simp) _ hTO⟩, h1.at fun o q => k i1 (by simp) o q, h2.at fun o q => k i2 (by simp) o q⟩
  item := by
    intro X hP hw hK hc i pins s σ H E I hf st hg
    subst hP hw hK
    obtain ⟨hz, hTI, ⟨x0, y0, hTO⟩, h1, h2⟩ := st
    obtain ⟨xs, ys, x, y, hqx, hqy, hx, hy⟩ := hg
    obtain ⟨its, rv, p, _, _⟩ := inv_seqK I hqx
    obtain ⟨its2, rv2, p2, _, _⟩ := inv_seqK I hqy
    obtain ⟨u, hu, ru⟩ := rv.get hx
    obtain ⟨u2, hu2, ru2⟩ := rv2.get hy
    have hzl : z < s.heap.objs.size := Heap.lt_size hz
    have hh : X.A.in1.handled = none := I.ok.hd hc
    refine wpAny_pyNext_zipD2_item D (drawsK k1 hh i1 a ha its.toArray) (drawsK k2 hh i2 b hb its2.toArray) hz hTI hTO ⟨h1, p⟩ ⟨h2, p2⟩ (by rw [List.size_toArray]; exact (List.getElem?_eq_some_iff.mp hu).1) (by rw [List.size_toArray]; exact (List.getElem?_eq_some_iff.mp hu2).1) fun v1 v2 h' tk e1 e2 z' TO' h1' h2' hT hsz hk => ?_
    have e1' : v1 = u := by
      have : its[i]? = some v1 := by simpa using e1
      rw [hu] at this; exact (Option.some.inj this).symm
    have e2' : v2 = u2 := by
      have : its2[i]? = some v2 := by simpa using e2
      rw [hu2] at this; exact (Option.some.inj this).symm
    subst e1' e2'
    refine ⟨_, rfl, wpAny_letOwnedTupleGo_zip (s := { s with heap := h', toks := tk }) z' fun h'' z'' sb => ?_⟩
    have hT2 : h''.get? s.heap.objs.size = some { cls := .type "tuple", data := .seq #[v1, v2] } := (sb.2 _ (Nat.ne_of_gt hzl)).trans hT
    have new : ObjOk X.prog X.w (upd H s.heap.objs.size (.tup [x, y])) h'' s.heap.objs.size (.tup [x, y]) :=
      ⟨by show 2 ≤ sizeLine; decide, [v1, v2], .cons ru (.cons ru2 .nil), ⟨_, hT2, rfl, _, rfl⟩⟩
    have I1 : Inv X pins σ (upd H s.heap.objs.size (.tup [x, y])) { s with heap := h'', toks := tk } :=
      I.turnedNew (t' := tk) (ch := [z, TI, TO, i1, i2]) (fun c o hb q => (sb.2 c (fun q' => hb (by simp [q']))).trans (hk c o (fun q' => hb (by simp [q'])) (fun q' => hb (by simp [q'])) (fun q' => hb (by simp [q'])) (fun q' => hb (by simp [q'])) q)) hf (Nat.le_refl _) new
    refine ⟨.ref s.heap.objs.size, _, I1, rfl, ⟨_, x, y, rfl, I.hok.fresh (Nat.le_refl _), rfl, fun l hl => by rw [inv_injK I hl hqx]; exact hx, fun l hl => by rw [inv_injK I hl hqy]; exact hy⟩, ⟨z'', ?_, ⟨v1, v2, ?_⟩, ?_, ?_⟩, fun c hcm => ?_⟩
    · exact (sb.2 _ D.TIz).trans (hk _ _ D.TIz D.TITO D.TIi1 D.TIi2 hTI)
    · exact (sb.2 _ D.TOz).trans TO'
    · exact h1'.1.at fun o q => (sb.2 _ (Ne.symm D.zi1)).trans q
    · exact h2'.1.at fun o q => (sb.2 _ (Ne.symm D.zi2)).trans q
    · have hlt : c < s.heap.objs.size := by
        have e' : c = z ∨ c = TI ∨ c = TO ∨ c = i1 ∨ c = i2 := by simpa using hcm
        rcases e' with q | q | q | q | q
        · rw [q]; exact hzl
        · rw [q]; exact Heap.lt_size hTI
        · rw [q]; exact Heap.lt_size hTO
        · rw [q]; obtain ⟨_, e1, _⟩ := h1.obj; exact Heap.lt_size e1
        · rw [q]; obtain ⟨_, e2, _⟩ := h2.obj; exact Heap.lt_size e2
      rw [upd_ne (Nat.ne_of_lt hlt)]
      exact (hf c hcm).1
  done := by
    intro X hP hw hK hc i pins s σ H E I hf st hg
    subst hP hw hK
    obtain ⟨hz, hTI, ⟨x0, y0, hTO⟩, h1, h2⟩ := st
    obtain ⟨xs, ys, hqx, hqy, l1, l2, hend⟩ := hg
    obtain ⟨its, rv, p, _, _⟩ := inv_seqK I hqx
    obtain ⟨its2, rv2, p2, _, _⟩ := inv_seqK I hqy
    have m1 := rv.length
    have m2 := rv2.length
    have hh : X.A.in1.handled = none := I.ok.hd hc
    exact wpAny_pyNext_zipD2_end D (drawsK k1 hh i1 a ha its.toArray) (drawsK k2 hh i2 b hb its2.toArray) hz hTI hTO ⟨h1, p⟩ ⟨h2, p2⟩ (by rw [List.size_toArray]; omega) (by rw [List.size_toArray]; omega) (by rw [List.size_toArray, List.size_toArray]; omega)
      fun h' tk hk => ⟨rfl, I.turnedL (t' := tk) (ch := [z, TI, TO, i1, i2]) (fun c o hb q => hk c o (fun q' => hb (by simp [q'])) (fun q' => hb (by simp [q'])) (fun q' => hb (by simp [q'])) (fun q' => hb (by simp [q'])) q) hf⟩
  self := fun A i s Q E st h => wpAny_pyIter_zip st.1 h
def iZipM (k1 k2 : Bool) (K : PySem.W.Frag) (ta : TA) : TI := fun σ H R => ta σ H fun vs H1 => ∃ a b xs ys, vs = [.ref a, .ref b] ∧ SqK k1 K H1 a xs ∧ SqK k2 K H1 b ys ∧ R (ItzM k1 k2 K a b) H1
theorem pi_zipM (k1 k2 : Bool) {X : Cx} {e e2 : Expr} {ta : TA} {p pos tpos : PySem.Pos} {elts : List Expr} {kk : Nat} (hg : Gl X "zip") (hm : X.mg "zip" = none) (ha : PA X [e, e2] ta)
    (hs : starEach [e, e2] X.env = (false, eval e X.env) :: starEach [e2] X.env := by rfl) (hpl : (backTo pos (starEach [e2] X.env)).any (·.1) = false := by rfl) :
    PI X (.Tuple elts kk tpos) (.Call (.Name "zip" p) [e, e2] [] pos) (iZipM k1 k2 X.K ta) := by
  refine ⟨fun pins s σ H R I h => ?_⟩
  refine Call_ (ld_blt I hg hm PyProof.Rows.boot_zip (PyProof.Rows.callWith_type1 (thn (ha.run pos pins s σ H _ I h) fun us s1 ⟨vs, H1, I1, r1, q1⟩ => ?_) hs hpl))
  obtain ⟨a, b, xs, ys, ex, hqx, hqy, q⟩ := q1
  subst ex
  cases r1 with
  | cons r rr =>
    cases rr with
    | cons r' rr =>
      cases rr
      cases r
      cases r'
      have fresh5 : ∀ c, c ∈ [s1.heap.objs.size + 4, s1.heap.objs.size + 2, s1.heap.objs.size + 3, s1.heap.objs.size, s1.heap.objs.size + 1] → FpOk X pins H1 c := fun c hcm => by
        have e' : c = s1.heap.objs.size + 4 ∨ c = s1.heap.objs.size + 2 ∨ c = s1.heap.objs.size + 3 ∨ c = s1.heap.objs.size ∨ c = s1.heap.objs.size + 1 := by simpa using hcm
        have hle : s1.heap.objs.size ≤ c := by
          rcases e' with z | z | z | z | z
          · rw [z]; exact Nat.le_add_right _ _
          · rw [z]; exact Nat.le_add_right _ _
          · rw [z]; exact Nat.le_add_right _ _
          · rw [z]; exact Nat.le_refl _
          · rw [z]; exact Nat.le_add_right _ _
        exact I1.fpOk hle (I1.hok.fresh hle)
      obtain ⟨its, rv, p1, lt1, _⟩ := inv_seqK I1 hqx
      obtain ⟨its2, rv2, p2, lt2, _⟩ := inv_seqK I1 hqy
      refine zip_begins2 (beginsK k1 a its.toArray) (beginsK k2 b its2.toArray) p1 p2 fun h' hz hTI hTO g1 g2 hsz hk => wpAny_pyIter_zip hz ?_
      have I2 : Inv X pins σ H1 { s1 with heap := h' } := I1.kept (t' := s1.toks) hk
      have D := zip_sep2 (N := s1.heap.objs.size) (fp1 := [a]) (fp2 := [b]) (fun c hc => by rw [List.mem_singleton.mp hc]; exact lt1) (fun c hc => by rw [List.mem_singleton.mp hc]; exact lt2)
      exact ⟨s1.heap.objs.size + 4, [s1.heap.objs.size + 4, s1.heap.objs.size + 2, s1.heap.objs.size + 3, s1.heap.objs.size, s1.heap.objs.size + 1], _, _, H1, rfl, I2, turn_zipM D (Nat.ne_of_lt lt1) (Nat.ne_of_lt (Nat.lt_succ_of_lt lt2)),
        ⟨hz, hTI, ⟨_, _, hTO⟩, itO_is k1 g1, itO_is k2 g2⟩, fresh5, q⟩
theorem walk_zipM {k1 k2 : Bool} {K : PySem.W.Frag} {a b : Addr} {xs ys : List V} {n : Nat} (hn : n = min xs.length ys.length) : Walk (ItzM k1 k2 K a b) n (fun H => SqK k1 K H a xs ∧ SqK k2 K H b ys) (YPair (fun i => xs[i]?) (fun i => ys[i]?)) := by
  subst hn
  refine ⟨fun i _ hi q => ?_, fun _ q => ⟨xs, ys, q.1, q.2, by omega, by omega, by omega⟩, fun i H v H' _ q y => ?_⟩
  · have h1 : i < xs.length := by omega
    have h2 : i < ys.length := by omega
    exact ⟨xs, ys, xs[i], ys[i], q.1, q.2, by simp [h1], by simp [h2]⟩
  · obtain ⟨T, x, y', h1, h2, h3, h4, h5⟩ := y
    exact ⟨T, x, y', h1, h2, h3, h4 xs q.1, h5 ys q.2⟩
end K6
set_option Elab.async false
set_option linter.all false
set_option maxRecDepth 100000
set_option maxHeartbeats 2000000
namespace PySem
theorem meets_enumerate_newT (l : Addr) (items : Array Value) :
    Meets (Builtin.«enumerate.__new__» ⟨[.type "enumerate", .ref l], []⟩) (fun _ R s => s.heap.IsTuple l items ∧
      R (.ok (.ret (.ref (s.heap.push { cls := .type "tuple_iterator", data := .fields #[.ref l, .int 0 0] }).objs.size)))
        { s with heap := (s.heap.push { cls := .type "tuple_iterator", data := .fields #[.ref l, .int 0 0] }).push { cls := .type "enumerate", data := .fields #[.none, .bool false, .ref s.heap.objs.size, rawInt 0, .none, .none] } }) :=
  .of_wp fun prog w A R s h => by
    obtain ⟨hp, g, d, tk, os⟩ := s; obtain ⟨h1, h⟩ := h
    have hsub := sub_enumerate
    have q1 : ∀ {A' : Around} {E : Value → Shared → Prop} {Q : Value → Shared → Prop}, Q (.ref hp.objs.size) ⟨hp.push { cls := .type "tuple_iterator", data := .fields #[.ref l, .int 0 0] }, g, d, tk, os⟩ → wpAny (model prog w) A' (pyIter (.ref l)) Q E ⟨hp, g, d, tk, os⟩ :=
      fun q => wpAny_pyIter_tuple (s := ⟨hp, g, d, tk, os⟩) h1 q
    wp_walk using q1
    refine wpAny_stack_any fun st => wpAny_pure ?_
    split
    · rename_i c _ _ _ _ _
      cases (c == Value.type "enumerate")
      · wp_walk using q1
        exact ⟨_, rfl, h⟩
      · wp_walk using q1
        exact ⟨_, rfl, h⟩
    · wp_walk using q1
      exact ⟨_, rfl, h⟩
section
variable {prog : Program} {w : World} {A : Around} {E : Value → Shared → Prop} {s : Shared}
theorem call_enumerate_tup {l : Addr} {items : Array Value} {Q : Value → Shared → Prop} (hL : s.heap.IsTuple l items)
    (h : ∀ h', IsEnum h' (s.heap.objs.size + 1) s.heap.objs.size 0 .none → h'.IsTupleIter s.heap.objs.size l 0 → h'.objs.size = s.heap.objs.size + 2 →
      (∀ b o, s.heap.get? b = some o → h'.get? b = some o) → Q (.ref (s.heap.objs.size + 1)) { s with heap := h' }) :
    wpAny (model prog w) A (call (.type "enumerate") [.ref l]) Q E s := by
  refine callType_new F.called_enumerate (by decide) (F.typeCall_enumerate_1 _) (F.newCall_enumerate_1 _) (fun obj => F.args_object_init_2 obj _) F.entry_enumerate_new
    (meets_enumerate_newT l items) ⟨hL, ?_⟩
  have hz : (s.heap.push { cls := .type "tuple_iterator", data := .fields #[.ref l, .int 0 0] }).objs.size = s.heap.objs.size + 1 := Heap.size_push ..
  show _ ∧ _
  rw [hz]
  have he : IsEnum ((s.heap.push { cls := .type "tuple_iterator", data := .fields #[.ref l, .int 0 0] }).push
      { cls := .type "enumerate", data := .fields #[.none, .bool false, .ref s.heap.objs.size, rawInt 0, .none, .none] }) (s.heap.objs.size + 1) s.heap.objs.size 0 .none := by
    have := Heap.get?_push_size (s.heap.push { cls := .type "tuple_iterator", data := .fields #[.ref l, .int 0 0] })
      (o := { cls := .type "enumerate", data := .fields #[.none, .bool false, .ref s.heap.objs.size, rawInt 0, .none, .none] }) rfl
    rw [hz] at this; exact this
  refine ⟨⟨_, he, rfl⟩, h _ he ⟨_, Heap.get?_push_of_some _ (Heap.get?_push_size _ rfl), rfl, rfl⟩ (by rw [Heap.size_push, hz]) fun b o x => Heap.get?_push_of_some _ (Heap.get?_push_of_some _ x)⟩
end
end PySem
namespace K6
open PySem PySem.Spec PyProof.Rows L2
/-! ### enumerate of a tuple -/
def IteT (K : PySem.W.Frag) (a : Addr) : It :=
  ⟨fun i H => ∃ (xs : List V) (x : V), SqT K H a xs ∧ xs[i]? = some x, fun i H v H' => ∃ T x, v = .ref T ∧ H T = none ∧ H' = upd H T (.tup [.int (i : Nat), x]) ∧ ∀ xs, SqT K H a xs → xs[i]? = some x, fun i H => ∃ xs : List V, SqT K H a xs ∧ xs.length = i⟩
theorem turn_enumT {P : Program} {w : World} {K : PySem.W.Frag} {elts : List Expr} {kk : Nat} {tpos : PySem.Pos} {a e it : Addr} (hai : a ≠ it) (hea : e ≠ a) :
    Turn P w K (.Tuple elts kk tpos) (IteT K a) [e, it] e (fun i h => (∃ old, IsEnum h e it ((i : Nat) : Int) old) ∧ h.IsTupleIter it a i ∧ e ≠ it) where
  mem := by simp
  obj := fun i h st b hb => by
    obtain ⟨⟨old, he⟩, ⟨o, ho, hc, hd⟩, _⟩ := st
    have e' : b = e ∨ b = it := by simpa using hb
    rcases e' with z | z
    · rw [z]; exact ⟨_, he, fun v q => nomatch q⟩
    · rw [z]; exact ⟨o, ho, fun v q => by rw [hd] at q; cases q⟩
  keep := fun i h h' st k => let ⟨⟨old, he⟩, hi, hne⟩ := st; ⟨⟨old, k e (by simp) _ he⟩, hi.at fun o q => k it (by simp) o q, hne⟩
  item := by
    intro X hP hw hK hc i pins s σ H E I hf st hg
    subst hP hw hK
    obtain ⟨⟨old, he⟩, hit, hne⟩ := st
    obtain ⟨xs, x, hq, hx⟩ := hg
    obtain ⟨its, rv, p, hz⟩ := I.tuple hq
    obtain ⟨u, hu, ru⟩ := rv.get hx
    have hel : e < s.heap.objs.size := Heap.lt_size he
    have hil : it < s.heap.objs.size := by obtain ⟨_, q, _⟩ := hit; exact Heap.lt_size q
    have hh : X.A.in1.handled = none := I.ok.hd hc
    refine wpAny_pyNext_enum_itemD (Draws.tuple hh it a hai its.toArray) he ⟨hit, (show s.heap.IsTuple a its.toArray from p)⟩ (by rw [List.size_toArray]; exact (List.getElem?_eq_some_iff.mp hu).1) hne (by simp [hne, hea]) fun v h' tk ev ho hit' hT hsz hk => ?_
    have ev' : v = u := by
      have : its[i]? = some v := by simpa using ev
      rw [hu] at this; exact (Option.some.inj this).symm
    subst ev'
    refine ⟨_, rfl, wpAny_letOwnedTupleGo_enum (s := { s with heap := h', toks := tk + 1 }) ho fun h'' he' sb => ?_⟩
    have hT2 : h''.get? s.heap.objs.size = some { cls := .type "tuple", data := .seq #[.int i tk, v] } := (sb.2 _ (Nat.ne_of_gt hel)).trans hT
    have new : ObjOk X.prog X.w (upd H s.heap.objs.size (.tup [.int (i : Nat), x])) h'' s.heap.objs.size (.tup [.int (i : Nat), x]) :=
      ⟨by show 2 ≤ sizeLine; decide, [.int i tk, v], .cons ⟨_, rfl⟩ (.cons ru .nil), ⟨_, hT2, rfl, _, rfl⟩⟩
    have I1 : Inv X pins σ (upd H s.heap.objs.size (.tup [.int (i : Nat), x])) { s with heap := h'', toks := tk + 1 } :=
      I.turnedNew (t' := tk + 1) (ch := [e, it]) (fun b ob hb q => (sb.2 b (fun z => hb (by simp [z]))).trans (hk b ob (fun z => hb (by simp [z])) (fun z => hb (by simp [z])) q)) hf (Nat.le_refl _) new
    refine ⟨.ref s.heap.objs.size, _, I1, rfl, ⟨_, x, rfl, I.hok.fresh (Nat.le_refl _), rfl, fun ys hy => by rw [I.tuple_inj hy hq]; exact hx⟩, ⟨⟨v, ?_⟩, hit'.1.at fun o q => (sb.2 it (Ne.symm hne)).trans q, hne⟩, fun b hb => ?_⟩
    · have e1 : ((i + 1 : Nat) : Int) = (i : Int) + 1 := by omega
      rw [e1]; exact he'
    · have hb' : b < s.heap.objs.size := by
        have e' : b = e ∨ b = it := by simpa using hb
        rcases e' with z | z
        · rw [z]; exact hel
        · rw [z]; exact hil
      rw [upd_ne (Nat.ne_of_lt hb')]
      exact (hf b hb).1
  done := by
    intro X hP hw hK hc i pins s σ H E I hf st hg
    subst hP hw hK
    obtain ⟨⟨old, he⟩, hit, hne⟩ := st
    obtain ⟨xs, hq, hx⟩ := hg
    obtain ⟨its, rv, p, hz⟩ := I.tuple hq
    obtain ⟨f0, f1, f2, f3, f4, f5⟩ := hf it (by simp)
    have hl := rv.length
    have hh : X.A.in1.handled = none := I.ok.hd hc
    have en : i = its.toArray.size := by rw [List.size_toArray]; omega
    subst en
    exact wpAny_pyNext_enum_endD (Draws.tuple hh it a hai its.toArray) he ⟨hit, (show s.heap.IsTuple a its.toArray from p)⟩ fun h' eb => ⟨rfl, I.turned (t' := s.toks) (fun b o hb q => eb b o hb q) f0 f1 f3 f4 f5⟩
  self := fun A i s Q E st h => let ⟨⟨_, he⟩, _⟩ := st; wpAny_pyIter_enum he h
def iEnumT (K : PySem.W.Frag) (ta : TA) : TI := fun σ H R => ta σ H fun vs H1 => ∃ a xs, vs = [.ref a] ∧ SqT K H1 a xs ∧ R (IteT K a) H1
theorem pi_enumT {X : Cx} {e : Expr} {ta : TA} {p pos tpos : PySem.Pos} {elts : List Expr} {kk : Nat} (hg : Gl X "enumerate") (hm : X.mg "enumerate" = none) (ha : PA X [e] ta) (hs : starEach [e] X.env = [(false, eval e X.env)] := by rfl) :
    PI X (.Tuple elts kk tpos) (.Call (.Name "enumerate" p) [e] [] pos) (iEnumT X.K ta) := by
  refine ⟨fun pins s σ H R I h => ?_⟩
  refine Call_ (ld_blt I hg hm boot_enumerate (PyProof.Rows.callWith_type1 (thn (ha.run pos pins s σ H _ I h) fun us s1 ⟨vs, H1, I1, r1, q1⟩ => ?_) hs rfl))
  obtain ⟨a, xs, ex, hq, q⟩ := q1
  subst ex
  cases r1 with
  | cons r rr =>
    cases rr
    cases r
    obtain ⟨its, rv, p', hz⟩ := I1.tuple hq
    obtain ⟨o1, ho1, _⟩ := id p'
    have lta := Heap.lt_size ho1
    refine call_enumerate_tup (show s1.heap.IsTuple a its.toArray from p') fun h' he hit hsz hk => wpAny_pyIter_enum he ?_
    have I2 : Inv X pins σ H1 { s1 with heap := h' } := I1.kept (t' := s1.toks) hk
    refine ⟨s1.heap.objs.size + 1, [s1.heap.objs.size + 1, s1.heap.objs.size], _, _, H1, rfl, I2, turn_enumT (a := a) (e := s1.heap.objs.size + 1) (it := s1.heap.objs.size) (Nat.ne_of_lt lta) (Nat.ne_of_gt (Nat.lt_succ_of_lt lta)), ⟨⟨.none, he⟩, hit, Nat.succ_ne_self _⟩, fun b hb => ?_, q⟩
    have e' : b = s1.heap.objs.size + 1 ∨ b = s1.heap.objs.size := by simpa using hb
    have hle : s1.heap.objs.size ≤ b := by
      rcases e' with z | z
      · rw [z]; exact Nat.le_add_right _ _
      · rw [z]; exact Nat.le_refl _
    exact I1.fpOk hle (I1.hok.fresh hle)
theorem walk_enumT {K : PySem.W.Frag} {a : Addr} {xs : List V} : Walk (IteT K a) xs.length (fun H => SqT K H a xs) (YPair (fun i => some (.int (i : Nat))) (fun i => xs[i]?)) := by
  refine ⟨fun i _ hi q => ⟨xs, xs[i], q, by simp [hi]⟩, fun _ q => ⟨xs, q, rfl⟩, fun i H v H' _ q y => ?_⟩
  obtain ⟨T, x, h1, h2, h3, h4⟩ := y
  exact ⟨T, .int (i : Nat), x, h1, h2, h3, rfl, h4 xs q⟩
end K6
set_option Elab.async false
set_option linter.all false
set_option maxRecDepth 100000
set_option maxHeartbeats 2000000
namespace PySem
section
variable {M : Model} {A : Around} {R : GenEnd} {Y : Protocol} {n : Nat} {s₀ : Shared} {c : Code} {fs : List Frame} {s : Shared} {env : Env} {K : Flow → Sem Fin} {H : Value → Sem Fin} {gd : Bool → Bool} {lv : List Value → List Value}
theorem seg_For {target iter : Expr} {body : List Stmt} {pos : Pos} (hs : ∀ x, foldedSetIterable iter env x = pure x)
    (h : wpAny M (A.over c fs) (eval iter env) (fun v s1 => wpAny M (A.over c fs) (pyIter v) (fun itv s2 => ∀ p, Seg M A R Y n s₀ (.forLoop target itv body [] env) (M.den (.forLoop target itv body [] env))
      (.ret (fun r => ((match r with | .ok f => (.pure f : Sem Flow) | .error e => .raise e).onRaise fun (x : Value) => do
        if (← field x 1) == Value.none then unsupported "frame.own-activation:exception-without-traceback"
        setFlight x env.frame).wrap K H gd lv) none (gd false) (lv []) c p [] :: fs) s2) (fun x s' => Seg M A R Y n s₀ c (H x) fs s') s1) (fun x s' => Seg M A R Y n s₀ c (H x) fs s') s) :
    Seg M A R Y n s₀ c ((exec (.For target iter body [] pos) env).wrap K H gd lv) fs s := by
  rw [exec_For]
  refine seg_at ?_
  show Seg M A R Y n s₀ c ((eval iter env >>= fun x0 => foldedSetIterable iter env x0 >>= fun x => standAt iter.pos >>= fun _ => holding [x] (pyIter x) >>= fun it => runOwn (.forLoop target it body [] env) env : Sem Flow).wrap K H gd lv) fs s
  rw [Sem.bind_eq_wrap', Sem.wrap_wrap]
  refine seg_wrap (wpAny_mono h (fun v s1 h1 => ?_) fun _ _ x => x)
  rw [hs v]
  show Seg M A R Y n s₀ c ((standAt iter.pos >>= fun _ => holding [v] (pyIter v) >>= fun it => runOwn (.forLoop target it body [] env) env : Sem Flow).wrap K H gd lv) fs s1
  refine seg_at ?_
  show Seg M A R Y n s₀ c ((holding [v] (pyIter v) >>= fun it => runOwn (.forLoop target it body [] env) env : Sem Flow).wrap K H gd lv) fs s1
  rw [Sem.bind_eq_wrap', Sem.wrap_wrap]
  refine seg_wrap (wpAny_holding (wpAny_mono h1 (fun itv s2 h2 => ?_) fun _ _ x => x))
  exact seg_call h2
end
section
variable {prog : Program} {w : World} {A : Around} {R : GenEnd} {Y : Protocol} {n : Nat} {s₀ : Shared} {fs : List Frame} {s : Shared} {env : Env}
theorem seg_forLoop {target : Expr} {it : Value} {body : List Stmt}
    (h : wpAny (model prog w) (A.over (.forLoop target it body [] env) fs) (pyNext it) (fun r s1 => match r with
        | none => Seg (model prog w) A R Y n s₀ (.block [] env) ((model prog w).den (.block [] env)) fs s1
        | some v => wpAny (model prog w) (A.over (.forLoop target it body [] env) fs) (letOwnedTupleGo target it v) (fun _ s2 => wpAny (model prog w) (A.over (.forLoop target it body [] env) fs) (assign target env v) (fun _ s3 =>
          Seg (model prog w) A R Y n s₀ (.forLoop target it body [] env) ((execs body env).wrap (fun f => match f with
            | .next | .cont => .pure (.again (.forLoop target it body [] env))
            | .brk => .pure (.done .next)
            | .ret v => .pure (.done (.ret v))) (fun e => (do noteFrame e env; theTreesLotGoes e : Sem Unit).wrap (fun _ => .raise e) .raise id id) id id) fs s3)
            (fun x s' => Seg (model prog w) A R Y n s₀ (.forLoop target it body [] env) ((do noteFrame x env; theTreesLotGoes x : Sem Unit).wrap (fun _ => .raise x) .raise id id) fs s') s2)
            (fun x s' => Seg (model prog w) A R Y n s₀ (.forLoop target it body [] env) ((do noteFrame x env; theTreesLotGoes x : Sem Unit).wrap (fun _ => .raise x) .raise id id) fs s') s1)
      (fun x s' => Seg (model prog w) A R Y n s₀ (.forLoop target it body [] env) ((do noteFrame x env; theTreesLotGoes x : Sem Unit).wrap (fun _ => .raise x) .raise id id) fs s') s) :
    Seg (model prog w) A R Y n s₀ (.forLoop target it body [] env) ((model prog w).den (.forLoop target it body [] env)) fs s := by
  have fix : ∀ x s', Seg (model prog w) A R Y n s₀ (.forLoop target it body [] env) ((do noteFrame x env; theTreesLotGoes x : Sem Unit).wrap (fun _ => .raise x) .raise id id) fs s' →
      Seg (model prog w) A R Y n s₀ (.forLoop target it body [] env) ((do noteFrame x env; theTreesLotGoes x : Sem Unit).bind fun _ => (.raise x : Sem Fin)) fs s' := fun x s' hx => by
    rw [Sem.bind_eq_wrap]; exact hx
  show Seg _ A R Y n s₀ _ ((forTurn target it body [] env).onRaise (fun x => do noteFrame x env; theTreesLotGoes x)) fs s
  unfold forTurn
  rw [Sem.onRaise_eq_wrap]
  refine seg_at ?_
  show Seg _ A R Y n s₀ _ (((pyNext it).onRaise (fun _ => standAt { target.pos with line := 0 }) >>= fun r => match r with
    | none => again (.block [] env)
    | some v => letOwnedTupleGo target it v >>= fun _ => assign target env v >>= fun _ => execs body env >>= fun f => match f with
      | .next | .cont => again (.forLoop target it body [] env)
      | .brk => pure (.done .next)
      | .ret v => pure (.done (.ret v)) : Sem Fin).wrap _ _ _ _) fs s
  rw [Sem.bind_eq_wrap', Sem.wrap_wrap]
  refine seg_wrap (wpAny_onRaise (wpAny_mono h (fun r s1 h1 => ?_) fun x s' hx => wpAny_standAt (fix x s' hx)))
  cases r with
  | none => exact seg_again rfl h1
  | some v =>
    show Seg _ A R Y n s₀ _ ((letOwnedTupleGo target it v >>= fun _ => assign target env v >>= fun _ => execs body env >>= fun f => match f with
      | .next | .cont => again (.forLoop target it body [] env)
      | .brk => pure (.done .next)
      | .ret v => pure (.done (.ret v)) : Sem Fin).wrap _ _ _ _) fs s1
    rw [Sem.bind_eq_wrap', Sem.wrap_wrap]
    refine seg_wrap (wpAny_mono h1 (fun _ s2 h2 => ?_) fun x s' hx => fix x s' hx)
    show Seg _ A R Y n s₀ _ ((assign target env v >>= fun _ => execs body env >>= fun f => match f with
      | .next | .cont => again (.forLoop target it body [] env)
      | .brk => pure (.done .next)
      | .ret v => pure (.done (.ret v)) : Sem Fin).wrap _ _ _ _) fs s2
    rw [Sem.bind_eq_wrap', Sem.wrap_wrap]
    refine seg_wrap (wpAny_mono h2 (fun _ s3 h3 => ?_) fun x s' hx => fix x s' hx)
    show Seg _ A R Y n s₀ _ ((execs body env >>= fun f => match f with
      | .next | .cont => again (.forLoop target it body [] env)
      | .brk => pure (.done .next)
      | .ret v => pure (.done (.ret v)) : Sem Fin).wrap _ _ _ _) fs s3
    rw [Sem.bind_eq_wrap', Sem.wrap_wrap]
    rw [Sem.wrap_congr (execs body env) _ _ (K' := fun f => match f with
            | .next | .cont => .pure (.again (.forLoop target it body [] env))
            | .brk => .pure (.done .next)
            | .ret v => .pure (.done (.ret v))) (H' := (fun e => (do noteFrame e env; theTreesLotGoes e : Sem Unit).wrap (fun _ => .raise e) .raise id id))
        (fun f => by cases f <;> rfl)
        (fun e => by first | exact Sem.bind_eq_wrap _ _ | (show (do noteFrame e env; theTreesLotGoes e : Sem Unit).bind (fun _ => .raise e) = _; rw [Sem.bind_eq_wrap]))]
    exact h3
end
end PySem
namespace L2
open PySem PySem.Spec PyProof.Rows GenW
section
variable {X : Cx} {tg : Expr}
def tGFor (wi : TI) (g : TG) (tb : TGn) : TGn := fun D ys σ H => wi σ H fun J H1 => ∃ W : Nat → Nat → List V → St → Hp → Prop, (∃ m, W 0 m ys σ H1) ∧ ∀ i m ys σ H, W i m ys σ H →
  (J.stop i H ∧ D.nx ys σ H) ∨ (J.go i H ∧ ∃ N : List V → St → Hp → Prop, (∀ ys' σ' H', N ys' σ' H' → ∃ m', m' < m ∧ W (i + 1) m' ys' σ' H') ∧ ∀ x H', J.yld i H x H' → g x σ H' fun σ2 H2 => tb { D with nx := N, ct := N, bk := D.nx } ys σ2 H2)
theorem gs_for {iter : Expr} {body : List Stmt} {wi : TI} {gt : TG} {tb : TGn} {pos : PySem.Pos} (hp : PassesOwn (model X.prog X.w) X.A X.env X.xe) (hc : X.calm = true) (hi : PI X tg iter wi) (hg : PG X tg gt) (hb : GSs X body tb)
    (hs : ∀ x, foldedSetIterable iter X.env x = pure x := by intro _; rfl) : GS X (.For tg iter body [] pos) (tGFor wi gt tb) := by
  refine ⟨fun A S ip R n ys s₀ c fs K J gd lv s σ H D g hn k hI ht => ?_⟩
  obtain ⟨acc, cc, r, I⟩ := hI
  refine seg_For hs ?_
  rw [g.over]
  refine wpAny_mono (hi.run ((S, lstObj acc cc) :: ip) s σ H _ I ht) (fun v s1 h1 => wpAny_mono h1 (fun itv s2 h2 => ?_) fun x s' hx => k.exc n s₀ x s' hx) fun x s' hx => k.exc n s₀ x s' hx
  intro p
  obtain ⟨it, fp, tn, Jt, H2, e, I2, T, st2, f2, W, ⟨m0, w0⟩, turn⟩ := h2
  subst e
  have stat : ∀ {acc' : Array Value} {c' : Nat} {H' : Hp}, (∀ b ∈ fp, H' b = none) → ∀ b ∈ fp, FpOk X ((S, lstObj acc' c') :: ip) H' b := fun {acc' c' H'} hn b hb => by
    obtain ⟨_, f1, f3, f4, f5, f6⟩ := f2 b hb
    refine ⟨hn b hb, f1, f3, f4, f5, fun q hq => ?_⟩
    rcases List.mem_append.mp hq with hq | hq
    · exact f6 q (List.mem_append_left _ hq)
    · rcases List.mem_cons.mp hq with hq | hq
      · rw [hq]; exact f6 (S, lstObj acc cc) (List.mem_append_right _ List.mem_cons_self)
      · exact f6 q (List.mem_append_right _ (List.mem_cons_of_mem _ hq))
  have notS : ∀ b ∈ fp, b ≠ S := fun b hb z => (f2 b hb).2.2.2.2.2 (S, lstObj acc cc) (List.mem_append_right _ List.mem_cons_self) z.symm
  have gl := fun (kk : Result → Sem PySem.Fin) => gc_loop (k := kk) (c' := .forLoop tg (.ref it) body [] X.env) (l := lv []) (kp := []) (p := p) g rfl rfl
  have loop : ∀ (m i n : Nat) (ys : List V) (s₀ s : Shared) (σ : St) (H : Hp), n + ys.length = sizeLine → W i m ys σ H → GI X S ip ys σ H s → tn i s.heap → (∀ b ∈ fp, H b = none) →
      Seg (model X.prog X.w) A R (GY X S) n s₀ (.forLoop tg (.ref it) body [] X.env) ((model X.prog X.w).den (.forLoop tg (.ref it) body [] X.env))
        (.ret (fun r => ((match r with | .ok f => (.pure f : Sem Flow) | .error e => .raise e).onRaise (cameBack X.env)).wrap K J gd lv) none (gd false) (lv []) c p [] :: fs) s := by
    intro m
    induction m using Nat.strongRecOn with
    | ind m ih =>
      intro i n ys s₀ s σ H hn w hI st fr
      have ee : ∀ (n : Nat) (s₀ : Shared) (x : Value) (s' : Shared), X.xe x s' → Seg (model X.prog X.w) A R (GY X S) n s₀ (.forLoop tg (.ref it) body [] X.env)
          ((do noteFrame x X.env; theTreesLotGoes x : Sem Unit).wrap (fun _ => .raise x) .raise id id)
          (.ret (fun r => ((match r with | .ok f => (.pure f : Sem Flow) | .error e => .raise e).onRaise (cameBack X.env)).wrap K J gd lv) none (gd false) (lv []) c p [] :: fs) s' := fun n s₀ x s' hx => by
        refine seg_wrap ?_
        rw [(gl _).over]
        refine wpAny_bind (wpAny_mono (hp x s' hx) (fun _ s'' hcb => wpAny_theTreesLotGoes ?_) fun y s'' hcb => ?_)
        · exact seg_leaf (.error x) (seg_cameBack g k hcb)
        · exact seg_leaf (.error y) (seg_cameBack g k hcb)
      refine seg_forLoop ?_
      rw [(gl _).over]
      obtain ⟨acc, cc, r, I⟩ := hI
      rcases turn i m ys σ H w with ⟨stop, qn⟩ | ⟨go, N, hN, step⟩
      · refine wpAny_mono (T.done X rfl rfl rfl hc i _ s σ H X.xe I (stat fr) st stop) (fun r1 s4 h4 => ?_) fun x s' hx => ee n s₀ x s' hx
        obtain ⟨hr, I4⟩ := h4
        subst hr
        exact seg_leaf (.ok .next) (k.ok n ys s₀ s4 .next hn ⟨σ, H, ⟨acc, cc, r, I4⟩, qn⟩)
      · refine wpAny_mono (T.item X rfl rfl rfl hc i _ s σ H X.xe I (stat fr) st go) (fun r1 s4 h4 => ?_) fun x s' hx => ee n s₀ x s' hx
        obtain ⟨u, hr, h4⟩ := h4
        subst hr
        refine wpAny_mono h4 (fun _ s5 h5 => ?_) fun x s' hx => ee n s₀ x s' hx
        obtain ⟨x, H5, I5, r5, y5, st5, fr5⟩ := h5
        have I5' := I5.pinned (stat fr5) (T.obj _ _ st5)
        refine wpAny_mono (hg.run _ s5 σ H5 x u _ I5' r5 (step x H5 y5)) (fun _ s6 h6 => ?_) fun x s' hx => ee n s₀ x s' hx
        obtain ⟨σ6, H6, I6, q6⟩ := h6
        have gb : ∀ kk, GC X S (ip ++ pinsAt fp s5.heap) A (.forLoop tg (.ref it) body [] X.env) (.ret kk none (gd false) (lv []) c p [] :: fs) id := fun kk => by
          have q := gl kk
          refine ⟨q.pn, fun z hz => ?_, q.apart, q.over, q.split, q.guard, q.gd⟩
          rcases List.mem_append.mp hz with hz | hz
          · exact q.ip z hz
          · obtain ⟨b, hb, h3⟩ := List.mem_filterMap.mp hz
            obtain ⟨o, _, h4⟩ := Option.map_eq_some_iff.mp h3
            rw [← h4]
            exact notS b hb
        have back : ∀ {ys7 : List V} {σ7 : St} {H7 : Hp} {s7 : Shared}, GI X S (ip ++ pinsAt fp s5.heap) ys7 σ7 H7 s7 → GI X S ip ys7 σ7 H7 s7 ∧ tn (i + 1) s7.heap ∧ ∀ b ∈ fp, H7 b = none := fun {ys7 σ7 H7 s7} h7 => by
          obtain ⟨acc7, c7, r7, I7⟩ := h7
          have I7' : Inv X (((S, lstObj acc7 c7) :: ip) ++ pinsAt fp s5.heap) σ7 H7 s7 := I7
          refine ⟨⟨acc7, c7, r7, I7'.unpinned⟩, T.keep _ _ _ st5 fun b hb o e => (I7'.pin (b, o) (List.mem_append_right _ (List.mem_append_right _ (mem_pinsAt hb e)))).1, fun b hb => ?_⟩
          obtain ⟨o, e, d⟩ := T.obj _ _ st5 b hb
          exact (I7'.pin (b, o) (List.mem_append_right _ (List.mem_append_right _ (mem_pinsAt hb e)))).2.1
        refine hb.run A S (ip ++ pinsAt fp s5.heap) R n ys s₀ _ _ _ _ id id s6 σ6 H6 { D with nx := N, ct := N, bk := D.nx } (gb _) hn ⟨fun n' ys' s₀' s7 f hn' hs => ?_, fun n' s₀' x s3 hx => ee n' s₀' x s3 hx⟩ ⟨acc, cc, r, I6⟩ q6
        cases f with
        | next =>
          obtain ⟨σ7, H7, I7, n7⟩ := hs
          obtain ⟨m', hm, w7⟩ := hN ys' σ7 H7 n7
          obtain ⟨b1, b2, b3⟩ := back I7
          exact seg_again rfl (ih m' hm (i + 1) n' ys' s₀' s7 σ7 H7 hn' w7 b1 b2 b3)
        | cont =>
          obtain ⟨σ7, H7, I7, n7⟩ := hs
          obtain ⟨m', hm, w7⟩ := hN ys' σ7 H7 n7
          obtain ⟨b1, b2, b3⟩ := back I7
          exact seg_again rfl (ih m' hm (i + 1) n' ys' s₀' s7 σ7 H7 hn' w7 b1 b2 b3)
        | brk =>
          obtain ⟨σ7, H7, I7, n7⟩ := hs
          exact seg_leaf (.ok .next) (k.ok n' ys' s₀' s7 .next hn' ⟨σ7, H7, (back I7).1, n7⟩)
        | ret v =>
          obtain ⟨x7, σ7, H7, I7, r7, q7⟩ := hs
          exact seg_leaf (.ok (.ret v)) (k.ok n' ys' s₀' s7 (.ret v) hn' ⟨x7, σ7, H7, (back I7).1, r7, q7⟩)
  exact loop m0 0 n ys s₀ s2 σ H2 hn w0 ⟨acc, cc, r, I2⟩ st2 fun b hb => (f2 b hb).1
end
end L2
set_option Elab.async false
set_option linter.all false
set_option maxRecDepth 100000
set_option maxHeartbeats 1000000
namespace K6
open PySem PySem.Spec PyProof.Rows L2
/-! ### the rules with the written part named (for comprehensions) -/
section
variable {X : Cx} (K : PySem.W.Frag) (hK : X.K = K)
include hK
theorem pg_tupK {es : List Expr} {k : Nat} {t : TGs} {n : Nat} {pos : PySem.Pos} (hc : X.calm = true) (h : PGs X es t)
    (hn : (assignEach es X.env).length = n := by rfl) (hst : (assignEach es X.env).findIdx? (·.1) = none := by rfl) : PG X (.Tuple es k pos) (gTup K n t) := by
  subst hK; exact pg_tup hc h hn hst
theorem ix_tupK : IxR X (rIxT K) := by subst hK; exact ix_tup
theorem ix_listK : IxR X (rIxL K) := by subst hK; exact ix_list
theorem op_in_seqK : OpR X (compareOp .In) (rIn K false) := by subst hK; exact op_in_seq
theorem op_notIn_seqK : OpR X (compareOp .NotIn) (rIn K true) := by subst hK; exact op_notIn_seq
theorem pe_fldK {e : Expr} {f : Str} {pos : PySem.Pos} {ta : TE} (he : PE X e ta) (hb : attributeBase e f X.env (eval e X.env) = eval e X.env) : PE X (.Attribute e f pos) (tFld K ta f) := by subst hK; exact pe_fld he hb
theorem call_len_seqK : CallR X (.builtin "len") (fun xs H Q => ∃ p ys, xs = [.ref p] ∧ (SqL K H p ys ∨ SqT K H p ys) ∧ Q (.int ys.length) H) := by subst hK; exact call_len_seq
theorem sl_tupK : SlR X (rSlT K) := by subst hK; exact sl_tup
theorem sl_tupAK : SlR X (rSlA K) := by subst hK; exact sl_tupA
theorem sl_listK : SlR X (rSlL K) := by subst hK; exact sl_list
theorem call_isiK : CallR X (.builtin "isinstance") (rIsi K) := by subst hK; exact call_isi
theorem pi_tupK {tg l : Expr} {tl : TE} (hl : PE X l tl) : PI X tg l (iTup K tl) := by subst hK; exact pi_tup hl
theorem pi_listK {tg l : Expr} {tl : TE} (hl : PE X l tl) : PI X tg l (iList K tl) := by subst hK; exact pi_list hl
theorem pi_seqK {tg l : Expr} {tl : TE} (hl : PE X l tl) : PI X tg l (iSeq K tl) := by subst hK; exact pi_seq hl
theorem pe_revTK {e : Expr} {te : TE} {k : Nat} {p1 p2 p3 pos : PySem.Pos} (he : PE X e te) : PE X (.Subscript e (.Slice none none (some (.UnaryOp .USub (.Constant (.int 1) k p1) p2)) p3) pos) (tRevT K te) := by subst hK; exact pe_revT he
theorem pe_revLK {e : Expr} {te : TE} {k : Nat} {p1 p2 p3 pos : PySem.Pos} (he : PE X e te) : PE X (.Subscript e (.Slice none none (some (.UnaryOp .USub (.Constant (.int 1) k p1) p2)) p3) pos) (tRevL K te) := by subst hK; exact pe_revL he
theorem call_list_ofK : CallR X (.type "list") (fun xs H Q => ∃ p ys, xs = [.ref p] ∧ (SqL K H p ys ∨ SqT K H p ys) ∧ ∀ l, H l = none → Q (.ref l) (upd H l (.lst ys))) := by subst hK; exact call_list_of
end
/-! ### slices of tuples -/
theorem cut_take {xs : List V} {v : Int} (k : Nat) (h : v = (k : Int)) : cutV xs none (some v) = xs.take k := by
  subst h
  unfold cutV
  rw [HT.sIx_none, HT.sIx_nat]
  simp [List.take_eq_take_iff]
theorem cut_drop {xs : List V} {v : Int} (k : Nat) (h : v = (k : Int)) : cutV xs (some v) none = xs.drop k := by
  subst h
  unfold cutV
  rw [HT.sIx_none, HT.sIx_nat]
  by_cases hk : k ≤ xs.length
  · rw [Nat.min_eq_left hk, List.take_of_length_le (by simp)]
  · rw [Nat.min_eq_right (by omega), List.drop_eq_nil_of_le (Nat.le_refl _), List.drop_eq_nil_of_le (by omega)]; simp
theorem slA_of {K : PySem.W.Frag} {H : Hp} {Q : VK} {a : Addr} {xs ys : List V} {lo hi : Option Int} (h : SqT K H a xs) (e : cutV xs lo hi = ys) (k : ∀ p H1, Same H H1 → SqT K H1 p ys → Q (.ref p) H1) : rSlA K (.ref a) lo hi H Q := by
  subst e
  refine ⟨a, xs, rfl, h, fun hw => ?_, fun _ p hp => k p _ (same_new hp) (SqT.of upd_same)⟩
  have e : cutV xs lo hi = xs := by
    unfold cutV
    rw [hw.1, hw.2, List.drop_zero, List.take_of_length_le (by omega)]
  rw [e] at k
  exact k a H (Same.refl _) h
end K6
set_option Elab.async false
set_option linter.all false
set_option maxRecDepth 100000
set_option maxHeartbeats 1000000
namespace K6
open PySem PySem.Spec PyProof.Rows L2
theorem beq_dec {α : Type} [DecidableEq α] (a b : α) : (a == b) = decide (a = b) := by
  by_cases h : a = b
  · subst h; simp
  · simp [h]
theorem eqvs_map {α : Type} [DecidableEq α] {f : α → PyData} (h : ∀ a b, PyData.eqv (f a) (f b) = decide (a = b)) : ∀ l m : List α, PyData.eqvAll (l.map f) (m.map f) = decide (l = m)
  | [], [] => by simp [PyData.eqvAll]
  | [], _ :: _ => by simp [PyData.eqvAll]
  | _ :: _, [] => by simp [PyData.eqvAll]
  | a :: l, b :: m => by
    rw [List.map_cons, List.map_cons, PyData.eqvAll, h, eqvs_map h l m]
    by_cases e1 : a = b <;> by_cases e2 : l = m <;> simp [e1, e2]
theorem eqv_int (a b : Int) : PyData.eqv (.int a) (.int b) = decide (a = b) := by
  rw [PyData.eqv]; exact beq_dec a b
theorem eqv_list {α : Type} [DecidableEq α] {f : α → PyData} (h : ∀ a b, PyData.eqv (f a) (f b) = decide (a = b)) (l m : List α) : PyData.eqv (.list (l.map f)) (.list (m.map f)) = decide (l = m) := by
  rw [PyData.eqv]; exact eqvs_map h l m
theorem eqv_tup {α : Type} [DecidableEq α] {f : α → PyData} (h : ∀ a b, PyData.eqv (f a) (f b) = decide (a = b)) (l m : List α) : PyData.eqv (.tuple (l.map f)) (.tuple (m.map f)) = decide (l = m) := by
  rw [PyData.eqv]; exact eqvs_map h l m
theorem eqv_str (a b : Str) : PyData.eqv (.str a) (.str b) = decide (a = b) := by
  rw [PyData.eqv]
  exact beq_dec a b
theorem ordS_inj : ∀ {a b : Bool}, ordS a = ordS b → a = b := by
  intro a b h
  cases a <;> cases b <;> first | rfl | (exact absurd h (by decide +kernel))
theorem eqv_node {m n : Node} (hm : m.nm < 3) (hn : n.nm < 3) : PyData.eqv (nodeD m) (nodeD n) = decide (m = n) := by
  obtain ⟨a, u, w⟩ := m
  obtain ⟨b, v, z⟩ := n
  show PyData.eqv (.tuple [.str (nmS a), .str (ordS u), .tuple (w.map .int)]) (.tuple [.str (nmS b), .str (ordS v), .tuple (z.map .int)]) = _
  rw [PyData.eqv, PyData.eqvAll, PyData.eqvAll, PyData.eqvAll, PyData.eqvAll, eqv_str, eqv_str, eqv_tup eqv_int]
  have e1 : decide (nmS a = nmS b) = decide (a = b) := by
    by_cases q : a = b
    · subst q; simp
    · rw [decide_eq_false q]; exact decide_eq_false fun z => q (nmS_inj hm hn z)
  have e2 : decide (ordS u = ordS v) = decide (u = v) := by
    by_cases q : u = v
    · subst q; simp
    · rw [decide_eq_false q]; exact decide_eq_false fun z => q (ordS_inj z)
  rw [e1, e2]
  by_cases h1 : a = b <;> by_cases h2 : u = v <;> by_cases h3 : w = z <;> simp [h1, h2, h3]
theorem canLay_map {α : Type} {f : α → PyData} (h : ∀ a, (f a).canLay0 = true) : ∀ l : List α, PyData.canLayAll0 (l.map f) = true
  | [] => by simp [PyData.canLayAll0]
  | a :: l => by rw [List.map_cons, PyData.canLayAll0, h, canLay_map h l]; rfl
theorem depth_map {α : Type} {f : α → PyData} {n : Nat} (h : ∀ a, (f a).depth ≤ n) : ∀ l : List α, PyData.depthAll (l.map f) ≤ n
  | [] => by simp [PyData.depthAll]
  | a :: l => by
    rw [List.map_cons, PyData.depthAll]
    have := h a
    have := depth_map h l
    omega
theorem shaped_ints (l : List Int) : SeqAt.shaped (.list (l.map .int)) = true := by
  unfold SeqAt.shaped
  have h1 : PyData.canLay0 (.list (l.map .int)) = true := by rw [PyData.canLay0]; exact canLay_map (fun a => by rw [PyData.canLay0]) l
  have h2 : PyData.depth (.list (l.map .int)) ≤ 64 := by
    rw [PyData.depth]
    have := depth_map (f := PyData.int) (n := 0) (fun a => by rw [PyData.depth]; exact Nat.le_refl 0) l
    omega
  rw [h1, decide_eq_true h2]; rfl
theorem nm_ok (i : Nat) : PyData.canLay0 (.str (nmS i)) = true := by
  match i with
  | 0 => decide +kernel
  | 1 => decide +kernel
  | _ + 2 => show PyData.canLay0 (.str "c") = true; decide +kernel
theorem canLay_node (n : Node) : (nodeD n).canLay0 = true := by
  show PyData.canLay0 (.tuple [.str (nmS n.nm), .str (ordS n.up), .tuple (n.w.map .int)]) = true
  rw [PyData.canLay0, PyData.canLayAll0, PyData.canLayAll0, PyData.canLayAll0, PyData.canLayAll0, nm_ok]
  have h1 : PyData.canLay0 (.tuple (n.w.map .int)) = true := by rw [PyData.canLay0]; exact canLay_map (fun a => by rw [PyData.canLay0]) _
  have h2 : PyData.canLay0 (.str (ordS n.up)) = true := by cases n.up <;> decide +kernel
  rw [h1, h2]; rfl
theorem depth_node (n : Node) : (nodeD n).depth ≤ 2 := by
  show PyData.depth (.tuple [.str (nmS n.nm), .str (ordS n.up), .tuple (n.w.map .int)]) ≤ 2
  have := depth_map (f := PyData.int) (n := 0) (fun a => by rw [PyData.depth]; exact Nat.le_refl 0) n.w
  simp only [PyData.depth, PyData.depthAll]
  omega
theorem shaped_node (n : Node) : SeqAt.shaped (nodeD n) = true := by
  unfold SeqAt.shaped
  rw [canLay_node, decide_eq_true (by have := depth_node n; omega)]; rfl
theorem noL_int (i : Int) : noL (.int i) = true := by rw [noL]
theorem noL_str (i : Str) : noL (.str i) = true := by rw [noL]
theorem noL_w (w : List Int) : noL (wD w) = true := by
  show noL (.tuple _) = true
  rw [noL]; exact noLs_map noL_int
theorem noL_stp (s : Stp) : noL (stpD s) = true := by
  show noL (.tuple _) = true
  rw [noL]; exact noLs_map noL_str
theorem noL_call (c : Option (Nat × Bool)) : noL (callD c) = true := by
  cases c with
  | none => show noL .none = true; rw [noL]
  | some c => show noL (.tuple [.str (nmS c.1), .bool c.2]) = true; simp [noL, noLs]
theorem noL_loom (l : Loom) : noL (loomD l) = true := by
  show noL (.tuple [.tuple (l.steps.map stpD), callD l.one, callD l.two]) = true
  rw [noL, noLs, noLs, noLs, noLs, noL_call, noL_call, noL, noLs_map noL_stp]; rfl
theorem noL_node (n : Node) : noL (nodeD n) = true := by
  show noL (.tuple [.str (nmS n.nm), .str (ordS n.up), wD n.w]) = true
  rw [noL, noLs, noLs, noLs, noLs, noL_w, noL, noL]; rfl
theorem noL_way (w : List (Nat × Nat)) : noL (wayD w) = true := by
  show noL (.tuple _) = true
  rw [noL]; exact noLs_map fun p => by simp [noL, noLs]
theorem dp_ints {K : PySem.W.Frag} {H : Hp} {a : Addr} {l : List Int} (h : SqL K H a (l.map V.int)) : Dp K H (.ref a) (.list (l.map .int)) := .lst h (DpAll.ints l)
theorem dp_w {K : PySem.W.Frag} {H : Hp} {a : Addr} {l : List Int} (h : SqT K H a (l.map V.int)) : Dp K H (.ref a) (wD l) := .tup h (DpAll.ints l)
theorem get_ints {K : PySem.W.Frag} {H : Hp} {v : V} {l : List Int} (h : Dp K H v (.list (l.map .int))) : ∃ a, v = .ref a ∧ SqL K H a (l.map V.int) := by
  obtain ⟨a, xs, rfl, h1, h2⟩ := h.list
  rw [DpAll.of_ints h2] at h1
  exact ⟨a, rfl, h1⟩
theorem get_w {K : PySem.W.Frag} {H : Hp} {v : V} {l : List Int} (h : Dp K H v (wD l)) : ∃ a, v = .ref a ∧ SqT K H a (l.map V.int) := by
  obtain ⟨a, xs, rfl, h1, h2⟩ := h.tuple
  rw [DpAll.of_ints h2] at h1
  exact ⟨a, rfl, h1⟩
theorem get_ints_lp {K : PySem.W.Frag} {H : Hp} {v : V} {l : List Int} (h : Lp K H v (l.map .int)) : ∃ a, v = .ref a ∧ H a = some (.lst (l.map V.int)) := by
  obtain ⟨a, xs, rfl, h1, h2⟩ := h
  rw [DpAll.of_ints h2] at h1
  exact ⟨a, rfl, h1⟩
/-! ### sorted rows -/
theorem perm_sorted {l m : List Int} (p : l.Perm m) (a : l.Pairwise (· ≤ ·)) (b : m.Pairwise (· ≤ ·)) : l = m := List.Perm.eq_of_pairwise (fun x y _ _ h1 h2 => Int.le_antisymm h1 h2) a b p
theorem srt_sorted {r l : List Int} (up : Bool) (p : l.Perm r) (a : l.Pairwise (· ≤ ·)) : (r = if up then l else l.reverse) ↔ srt up r := by
  cases up with
  | true =>
    refine ⟨fun e => ?_, fun h => ?_⟩
    · show r.Pairwise _
      rw [show r = l from e]; exact a
    · exact (perm_sorted p a h).symm
  | false =>
    refine ⟨fun e => ?_, fun h => ?_⟩
    · show r.Pairwise (fun a b => b ≤ a)
      rw [show r = l.reverse from e]
      exact List.pairwise_reverse.mpr a
    · show r = l.reverse
      have h' : r.reverse.Pairwise (· ≤ ·) := List.pairwise_reverse.mpr h
      have := perm_sorted (p.trans (List.reverse_perm r).symm) a h'
      rw [this, List.reverse_reverse]
end K6
set_option Elab.async false
set_option linter.all false
set_option maxRecDepth 100000
set_option maxHeartbeats 4000000
namespace K6
open PySem PySem.Spec PyProof.Rows L2
theorem ite_in {a : V} {xs : List V} {c : Bool} (h : inV a xs = c) : (if false = true then !inV a xs else inV a xs) = c := h
section
variable {P : Program} {w : World} {K : PySem.W.Frag} {mg : Str → Option Value} {base : Heap} {D : Ads}
abbrev stpsD (st : List Stp) : PyData := .tuple (st.map stpD)
def spRelations (K : PySem.W.Frag) : Sp := fun vs H Q _ => ∃ (v : V) (st : List Stp), vs = [v] ∧ Dp K H v (stpsD st) ∧ st.length ≤ 3 ∧ RetN K H Q ((rels true st).map .bool)
theorem ok_relations (T : Txt K mg D) : FnOk P w K mg base CX0 1 (D.d 22).f (D.d 22).fd ["steps"] (spRelations K) := by
  refine T.w22.F.ok scRelations (fun vs H Q E h => ?_) (fun cdv A outer s H vs Q E hr h => ?_)
  · obtain ⟨a, s, rfl, _⟩ := h
    rfl
  · obtain ⟨v, st, rfl, hv, h3, k⟩ := h
    refine ⟨_, (pss_cons (ps_par (i := 2) (j := 3) (by rfl) scRelations.nd rfl rfl (by decide) rfl rfl (pa_cons pe_bl (pa_cons (pe_lst pa_nil) pa_nil)) (by rfl))
      (pss_cons (ps_for PassesOwn.never rfl (pi_tup (pv 0)) (pg_name (i := 1) scRelations.nd rfl (by first | exact Or.inl rfl | exact Or.inr rfl)) (pss_cons (ps_if (PW.pt (pw_and (pt_cmpR op_eq (pe_ix ix_tup (pv 1) pe_int (fun _ _ => rfl)) pe_str (nomark _)) (pw_and1 (pt_cmpR op_in_seq (pe_ix ix_tup (pv 1) pe_int (fun _ _ => rfl)) (pe_tup (pa_cons pe_str (pa_cons pe_str pa_nil))) (by rfl))))) (pss_one (ps_set (i := 2) scRelations.nd rfl (by first | exact Or.inl rfl | exact Or.inr rfl) (pe_not (pv 2)))) pss_nil)
      (pss_one (ps_if (pt_cmpR op_in_seq (pe_ix ix_tup (pv 1) pe_int (fun _ _ => rfl)) (pe_tup (pa_cons pe_str (pa_cons pe_str pa_nil))) (by rfl)) (pss_one (ps_expr (pe_bm PySem.F.plainAttrs_list PySem.F.slot_list_append PySem.F.type_list_append mt_append (pv 3) (pa_cons (pe_cmpR op_eq (pv 2) (pe_cmpR op_eq (pe_ix ix_tup (pv 1) pe_int (fun _ _ => rfl)) pe_str (nomark _)) (nomark _)) pa_nil)))) pss_nil))))
      (pss_one (ps_ret (pv 3))))), ?_⟩
    obtain ⟨a, xs, rfl, hS, hx⟩ := hv.tuple
    have hlx : xs.length = st.length := by rw [hx.length]; simp
    refine ⟨by show 0 ≤ sizeLine; decide, fun p hp => ⟨_, _, rfl, ?_⟩⟩
    refine ⟨_, rfl, a, rfl, ⟨_, tupS (same_new hp) hS⟩, ?_⟩
    refine for_it (walk_tup (K := K) (a := a) (xs := xs)) (fun i σ Hx => ∃ z b, ∃ pre : List Bool, σ = [some (.ref a), z, some (.bl b), some (.ref p)] ∧ Same H Hx ∧ Hx p = some (.lst (pre.map V.bl)) ∧ pre.length ≤ i ∧ rels true st = pre ++ rels b (st.drop i)) ⟨none, true, [], rfl, same_new hp, upd_same, Nat.le_refl _, rfl⟩ (fun i σ Hx _ ⟨_, _, _, _, h, _⟩ => tupS h hS) ?_ ?_
    · rintro i x σ Hx Hy hi ⟨z, b, pre, rfl, h1, h2, hl, h4⟩ ⟨rfl, ex⟩
      obtain ⟨d, ed, hd⟩ := hx.getV ex
      rw [List.getElem?_map] at ed
      obtain ⟨y, ey, rfl⟩ := Option.map_eq_some_iff.mp ed
      obtain ⟨c, rfl, hc⟩ := stp_get (hd.mono h1)
      obtain ⟨hi', ey'⟩ := List.getElem?_eq_some_iff.mp ey
      rw [List.drop_eq_getElem_cons hi', ey'] at h4
      cases y with
      | swap =>
        refine ⟨_, rfl, _, _, _, _, rfl, rfl, hc, at_of (j := 0) rfl rfl, rfl, false, by decide +kernel, iteF (iteF ?_)⟩
        refine ⟨_, rfl, _, _, _, _, rfl, rfl, hc, at_of (j := 0) rfl rfl, by decide, fun q hq => ⟨_, _, rfl, .inr (SqT.of upd_same), rfl, rfl, ?_⟩⟩
        refine ⟨false, by decide +kernel, iteF ?_⟩
        exact ⟨_, b, pre, rfl, h1.trans (same_new hq), by rw [upd_ne (ne_of_none h2 hq)]; exact h2, by omega, h4⟩
      | flip y =>
        refine ⟨_, rfl, _, _, _, _, rfl, rfl, hc, at_of (j := 0) rfl rfl, rfl, true, by decide +kernel, iteT ?_⟩
        refine ⟨_, rfl, _, _, _, .str (sdS y), rfl, rfl, hc, at_of (j := 1) rfl rfl, by decide, fun q hq => ⟨_, _, rfl, .inr (SqT.of upd_same), rfl, rfl, ?_⟩⟩
        have h2' : (upd Hy q (.tup [.str "left", .str "right"])) p = some (.lst (pre.map V.bl)) := by rw [upd_ne (ne_of_none h2 hq)]; exact h2
        have h1' : Same H (upd Hy q (.tup [.str "left", .str "right"])) := h1.trans (same_new hq)
        have fin : ∀ b', rels true st = pre ++ rels b' (st.drop (i + 1)) → ∀ H3, Same (upd Hy q (.tup [.str "left", .str "right"])) H3 → ∃ z b, ∃ pre : List Bool, [some (V.ref a), some (.ref c), some (.bl b'), some (.ref p)] = [some (.ref a), z, some (.bl b), some (.ref p)] ∧ Same H H3 ∧ H3 p = some (.lst (pre.map V.bl)) ∧ pre.length ≤ i + 1 ∧ rels true st = pre ++ rels b (st.drop (i + 1)) := fun b' e H3 s3 => ⟨_, b', pre, rfl, h1'.trans s3, s3 _ _ h2', by omega, e⟩
        have hc' := tupS (same_new (o := .tup [.str "left", .str "right"]) hq) hc
        refine ⟨_, rfl, ?_⟩
        rw [ite_in rfl]
        have e2 : inV (.str (sdS y)) [.str "left", .str "right"] = (y == .left || y == .right) := by cases y <;> decide +kernel
        rw [e2]
        cases y with
        | left =>
          refine iteT ⟨_, rfl, _, rfl, ?_⟩
          refine ⟨_, rfl, _, _, _, _, rfl, rfl, hc', at_of (j := 0) rfl rfl, by decide, fun q' hq' => ⟨_, _, rfl, .inr (SqT.of upd_same), rfl, rfl, false, by decide +kernel, iteF ?_⟩⟩
          exact fin (!b) h4 _ (same_new hq')
        | right =>
          refine iteT ⟨_, rfl, _, rfl, ?_⟩
          refine ⟨_, rfl, _, _, _, _, rfl, rfl, hc', at_of (j := 0) rfl rfl, by decide, fun q' hq' => ⟨_, _, rfl, .inr (SqT.of upd_same), rfl, rfl, false, by decide +kernel, iteF ?_⟩⟩
          exact fin (!b) h4 _ (same_new hq')
        | both =>
          refine iteF ?_
          refine ⟨_, rfl, _, _, _, _, rfl, rfl, hc', at_of (j := 0) rfl rfl, by decide, fun q' hq' => ⟨_, _, rfl, .inr (SqT.of upd_same), rfl, rfl, false, by decide +kernel, iteF ?_⟩⟩
          exact fin b h4 _ (same_new hq')
        | all =>
          refine iteF ?_
          refine ⟨_, rfl, _, _, _, _, rfl, rfl, hc', at_of (j := 0) rfl rfl, by decide, fun q' hq' => ⟨_, _, rfl, .inr (SqT.of upd_same), rfl, rfl, false, by decide +kernel, iteF ?_⟩⟩
          exact fin b h4 _ (same_new hq')
      | cmp x up =>
        refine ⟨_, rfl, _, _, _, .str (kindS x), rfl, rfl, hc, at_of (j := 0) rfl rfl, rfl, false, by cases x <;> decide +kernel, iteF (iteF ?_)⟩
        refine ⟨_, rfl, _, _, _, .str (kindS x), rfl, rfl, hc, at_of (j := 0) rfl rfl, by decide, fun q hq => ⟨_, _, rfl, .inr (SqT.of upd_same), rfl, rfl, ?_⟩⟩
        refine ⟨true, by cases x <;> decide +kernel, iteT ?_⟩
        have hc' := tupS (same_new (o := .tup [.str "cross", .str "mirror"]) hq) hc
        have h2' : (upd Hy q (.tup [.str "cross", .str "mirror"])) p = some (.lst (pre.map V.bl)) := by rw [upd_ne (ne_of_none h2 hq)]; exact h2
        refine ⟨_, rfl, .inl ⟨rfl, _, SqL.of h2'⟩, _, rfl, _, rfl, _, _, _, .str (kindS x), rfl, rfl, hc', at_of (j := 0) rfl rfl, rfl, rfl, p, _, _, rfl, rfl, h2', ?_, ?_⟩
        · rw [List.length_map]; have := hlx; have : sizeLine = 16777216 := sizeLine_eq; omega
        · refine ⟨_, b, pre ++ [b == x], rfl, same_upd_new (h1.trans (same_new hq)) hp, ?_, by simp; omega, ?_⟩
          · rw [upd_same, List.map_append]
            have e : (V.bl (decide (V.bl b = V.bl (decide (V.str (kindS x) = V.str "cross"))))) = V.bl (b == x) := by cases b <;> cases x <;> decide +kernel
            rw [e]; rfl
          · rw [h4]; simp [rels]
    · rintro σ Hx ⟨z, b, pre, rfl, h1, h2, hl, h4⟩
      rw [hlx, List.drop_length] at h4
      refine ⟨_, rfl, k _ _ h1 ⟨p, _, rfl, by rw [fsh_none hp]; exact h2, ?_⟩⟩
      rw [h4]
      simp only [rels, List.append_nil]
      exact DpAll.bools pre
end
end K6
set_option Elab.async false
set_option linter.all false
set_option maxRecDepth 100000
set_option maxHeartbeats 4000000
namespace K6
open PySem PySem.Spec PyProof.Rows L2
theorem min_is {i j m : Int} (h1 : m ∈ [i, j]) (h2 : ∀ y ∈ [i, j], m ≤ y) : m = min i j := by
  have a := h2 i (by simp)
  have b := h2 j (by simp)
  simp at h1
  omega
theorem max_is {i j m : Int} (h1 : m ∈ [i, j]) (h2 : ∀ y ∈ [i, j], y ≤ m) : m = max i j := by
  have a := h2 i (by simp)
  have b := h2 j (by simp)
  simp at h1
  omega
section
variable {P : Program} {w : World} {K : PySem.W.Frag} {mg : Str → Option Value} {base : Heap} {D : Ads}
def spOrderPair (K : PySem.W.Frag) : Sp := fun vs H Q _ => ∃ (i j : Int) (up : Bool), vs = [.int i, .int j, .str (ordS up)] ∧ ∀ H' p, Same H H' → H' p = some (.tup [.int (ordP up i j).1, .int (ordP up i j).2]) → Q (.ref p) H'
theorem ok_orderPair (T : Txt K mg D) : FnOk P w K mg base CX0 1 (D.d 24).f (D.d 24).fd ["one", "other", "order"] (spOrderPair K) := by
  refine T.w24.F.ok scOrderPair (fun vs H Q E h => ?_) (fun cdv A outer s H vs Q E hr h => ?_)
  · obtain ⟨a, s, _, rfl, _⟩ := h
    rfl
  · obtain ⟨i, j, up, rfl, k⟩ := h
    refine ⟨_, (pss_one (ps_ret (pe_ifExp (pt_cmpR op_eq (pv 2) pe_str (nomark _)) (pe_tup (pa_cons (pe_callB (cr_min rfl) (by rfl) T.min boot_min (pa_cons (pe_lst (pa_cons (pv 0) (pa_cons (pv 1) pa_nil))) pa_nil)) (pa_cons (pe_callB (cr_max rfl) (by rfl) T.max boot_max (pa_cons (pe_lst (pa_cons (pv 0) (pa_cons (pv 1) pa_nil))) pa_nil)) pa_nil))) (pe_tup (pa_cons (pe_callB (cr_max rfl) (by rfl) T.max boot_max (pa_cons (pe_lst (pa_cons (pv 0) (pa_cons (pv 1) pa_nil))) pa_nil)) (pa_cons (pe_callB (cr_min rfl) (by rfl) T.min boot_min (pa_cons (pe_lst (pa_cons (pv 0) (pa_cons (pv 1) pa_nil))) pa_nil)) pa_nil)))))), ?_⟩
    cases up with
    | true =>
      refine ⟨_, rfl, rfl, true, by decide +kernel, iteT ?_⟩
      refine ⟨_, rfl, _, rfl, by show 2 ≤ sizeLine; decide, fun p hp => ⟨p, [i, j], rfl, SqL.of upd_same, by show 0 < 2; decide, fun m h1 h2 => ?_⟩⟩
      refine ⟨_, rfl, _, rfl, by show 2 ≤ sizeLine; decide, fun q hq => ⟨q, [i, j], rfl, SqL.of upd_same, by show 0 < 2; decide, fun n h3 h4 => ?_⟩⟩
      refine ⟨by show 2 ≤ sizeLine; decide, fun r hr => ?_⟩
      rw [min_is h1 h2, max_is h3 h4]
      exact k _ r (((same_new hp).trans (same_new hq)).trans (same_new hr)) upd_same
    | false =>
      refine ⟨_, rfl, rfl, false, by decide +kernel, iteF ?_⟩
      refine ⟨_, rfl, _, rfl, by show 2 ≤ sizeLine; decide, fun p hp => ⟨p, [i, j], rfl, SqL.of upd_same, by show 0 < 2; decide, fun m h1 h2 => ?_⟩⟩
      refine ⟨_, rfl, _, rfl, by show 2 ≤ sizeLine; decide, fun q hq => ⟨q, [i, j], rfl, SqL.of upd_same, by show 0 < 2; decide, fun n h3 h4 => ?_⟩⟩
      refine ⟨by show 2 ≤ sizeLine; decide, fun r hr => ?_⟩
      rw [max_is h1 h2, min_is h3 h4]
      exact k _ r (((same_new hp).trans (same_new hq)).trans (same_new hr)) upd_same
def spIsPower : Sp := fun vs H Q _ => ∃ j : Nat, vs = [.int ((2 ^ j : Nat) : Int)] ∧ Q (.bl true) H
theorem ok_isPower (T : Txt K mg D) : FnOk P w K mg base CX0 1 (D.d 26).f (D.d 26).fd ["number"] spIsPower := by
  refine T.w26.F.ok scIsPower (fun vs H Q E h => ?_) (fun cdv A outer s H vs Q E hr h => ?_)
  · obtain ⟨a, rfl, _⟩ := h
    rfl
  · obtain ⟨j, rfl, k⟩ := h
    refine ⟨_, (pss_cons (ps_while PassesOwn.never (PW.pt (pw_and (pt_cmpR op_gt (pv 0) pe_int (nomark _)) (pw_and1 (pt_cmpR op_eq (pe_op op_mod (pv 0) pe_int) pe_int (nomark _))))) (pss_one (ps_aug (i := 0) scIsPower.nd rfl (by first | exact Or.inl rfl | exact Or.inr rfl) pe_int ip_fdiv)))
      (pss_one (ps_ret (pe_cmpR op_eq (pv 0) pe_int (nomark _))))), ?_⟩
    refine ⟨fun m σ Hx => σ = [some (.int ((2 ^ m : Nat) : Int))] ∧ Hx = H, ⟨j, rfl, rfl⟩, ?_⟩
    rintro m σ Hx ⟨rfl, rfl⟩
    cases m with
    | zero =>
      refine ⟨_, rfl, _, _, rfl, rfl, false, rfl, iteF (iteF ?_)⟩
      exact ⟨_, rfl, rfl, k⟩
    | succ m =>
      have h2 : (2 ^ (m + 1) : Nat) = 2 * 2 ^ m := by rw [Nat.pow_succ]; omega
      have h0 : 0 < 2 ^ m := Nat.two_pow_pos m
      refine ⟨_, rfl, _, _, rfl, rfl, true, congrArg V.bl (decide_eq_true (by omega)), iteT ?_⟩
      refine ⟨_, rfl, _, _, rfl, rfl, (show (0:Int) < 2 by decide), rfl, true, ?_, iteT ?_⟩
      · exact congrArg V.bl (decide_eq_true (congrArg V.int (by omega)))
      refine ⟨_, fun σ' H' q => ⟨m, Nat.lt_succ_self m, q⟩, ?_⟩
      refine ⟨_, rfl, _, _, rfl, rfl, ⟨by decide, by decide⟩, ?_⟩
      refine ⟨?_, rfl⟩
      show [some (V.int (((2 ^ (m + 1) : Nat) : Int) / 2))] = _
      rw [show ((2 ^ (m + 1) : Nat) : Int) / 2 = ((2 ^ m : Nat) : Int) by omega]
def spCheckWidth (K : PySem.W.Frag) : Sp := fun vs H Q _ => ∃ a, ∃ (r : List Int) (j : Nat), vs = [.ref a] ∧ SqL K H a (r.map V.int) ∧ r.length = 2 ^ j ∧ r.length ≤ sizeLine ∧ Ret H Q .non
theorem ok_checkWidth (T : Txt K mg D) : FnOk P w K mg base CX0 2 (D.d 27).f (D.d 27).fd ["row"] (spCheckWidth K) := by
  refine T.w27.F.ok scCheckWidth (fun vs H Q E h => ?_) (fun cdv A outer s H vs Q E hr h => ?_)
  · obtain ⟨a, r, _, rfl, _⟩ := h
    rfl
  · obtain ⟨a, r, j, rfl, hS, hj, hz, k⟩ := h
    refine ⟨_, (pss_cons (ps_if (PW.pt (pw_or (pt_not (pt_val (pe_callB call_isiT (by rfl) T.isinstance boot_isinstance (pa_cons (pv 0) (pa_cons (pe_tup (pa_cons (pe_bltn (v := .ty "list") (by rfl) T.list boot_list rfl) (pa_cons (pe_bltn (v := .ty "tuple") (by rfl) T.tuple boot_tuple rfl) pa_nil))) pa_nil))))) (pw_or1 (pt_not (pt_val (pe_callB (cr_all rfl) (by rfl) T.all boot_all (pa_cons (pe_lc (own := [("thing", 1)]) (by rfl) scCheckWidth.nd (pi_list (pv 0)) (blkOk_by (own := [("thing", 1)]) (N := ["row", "thing"]) (sc := defScope sCheckWidth) (by decide +kernel)) (fun _ _ _ _ _ => (pg_name (i := 1) scCheckWidth.nd rfl (by first | exact Or.inl rfl | exact Or.inr rfl))) (fun _ _ _ _ _ => pts_nil) (fun _ _ _ _ _ => (pe_call (ok_isWhole T) (hr.mono (by decide)) (by rfl) T.w7.m T.w7.F.kp T.w7.B .nil pass0 (pa_cons (pv 1) pa_nil)))) pa_nil))))))) (pss_one ps_never) pss_nil)
      (pss_one (ps_if (pt_not (pt_val (pe_call (ok_isPower T) (hr.mono (by decide)) (by rfl) T.w26.m T.w26.F.kp T.w26.B .nil pass0 (pa_cons (pe_callB call_len_seq (by rfl) T.len boot_len (pa_cons (pv 0) pa_nil)) pa_nil)))) (pss_one ps_never) pss_nil))), ?_⟩
    refine ⟨_, rfl, by show 2 ≤ sizeLine; decide, fun p hp => ⟨_, p, _, _, _, true, rfl, upd_same, cls_lt, ty_lst ((same_new hp).seq hS), kit_lt_l, true, rfl, iteF ?_⟩⟩
    refine ⟨_, rfl, a, rfl, ⟨_, (same_new hp).seq hS⟩, fun Dd hDd => ?_⟩
    have s0 : Same H (upd H p (.tup [.ty "list", .ty "tuple"])) := same_new hp
    refine lc_map (walk_list (K := K) (a := a) (xs := r.map V.int)) (fun _ y _ => y = .bl true) hDd (by rw [List.length_map]; exact hz) (fun _ _ _ _ _ h => h) (fun H' s1 => s1.seq (s0.seq hS)) ?_ ?_
    · rintro i x Ha Hb Kk hi s1 ⟨rfl, ex⟩ kk
      rw [List.getElem?_map] at ex
      obtain ⟨z, hz, rfl⟩ := Option.map_eq_some_iff.mp ex
      exact ⟨rfl, _, rfl, z, rfl, kk _ _ (Same.refl _) rfl⟩
    · intro H' ys s1 e1 l1 r1
      refine ⟨Dd, List.replicate ys.length true, rfl, ?_, ?_⟩
      · rw [← all_true r1]; exact SqL.of e1
      rw [all_rep]
      refine ⟨true, rfl, iteF ?_⟩
      refine ⟨_, rfl, _, _, rfl, .inl ((s0.trans s1).seq hS), j, ?_, true, rfl, iteF (k _ (s0.trans s1))⟩
      rw [List.length_map, hj]
      rfl
def spIsSorted (K : PySem.W.Frag) : Sp := fun vs H Q _ => ∃ a, ∃ (r : List Int) (up : Bool), vs = [.ref a, .str (ordS up)] ∧ SqA K H a (r.map V.int) ∧ Ret H Q (.bl (decide (srt up r)))
theorem ok_isSorted (T : Txt K mg D) : FnOk P w K mg base CX0 1 (D.d 39).f (D.d 39).fd ["word", "order"] (spIsSorted K) := by
  refine T.w39.F.ok scIsSorted (fun vs H Q E h => ?_) (fun cdv A outer s H vs Q E hr h => ?_)
  · obtain ⟨a, r, _, rfl, _⟩ := h
    rfl
  · obtain ⟨a, r, up, rfl, hS, k⟩ := h
    refine ⟨_, (pss_cons (ps_set (i := 2) scIsSorted.nd rfl (by first | exact Or.inl rfl | exact Or.inr rfl) (pe_callB cr_sortedIT (by rfl) T.sorted boot_sorted (pa_cons (pv 0) pa_nil)))
      (pss_one (ps_ret (pe_cmpR (op_eqD hr.units) (pe_callTy call_list_of (by rfl) T.list boot_list (pa_cons (pv 0) pa_nil)) (pe_ifExp (pt_cmpR op_eq (pv 1) pe_str (nomark _)) (pv 2) (pe_revL (pv 2))) (nomark _))))), ?_⟩
    refine ⟨_, rfl, a, r, rfl, hS, fun l p hperm hpw hp => ?_⟩
    have s1 : Same H (upd H p (.lst (l.map V.int))) := same_new hp
    refine ⟨_, rfl, a, _, rfl, hS.mono s1, fun q hq => ?_⟩
    have s2 : Same (upd H p (.lst (l.map V.int))) (upd (upd H p (.lst (l.map V.int))) q (.lst (r.map V.int))) := same_new hq
    cases up with
    | true =>
      refine ⟨_, rfl, rfl, true, by decide +kernel, iteT ?_⟩
      refine ⟨_, rfl, .list (r.map .int), .list (l.map .int), dp_ints (SqL.of upd_same), dp_ints (SqL.of (s2 _ _ upd_same)), shaped_ints _, shaped_ints _, ?_⟩
      rw [eqv_list eqv_int]
      have e : decide (r = l) = decide (srt true r) := decide_eq_decide.mpr (srt_sorted true hperm hpw)
      rw [e]
      exact k _ (s1.trans s2)
    | false =>
      refine ⟨_, rfl, rfl, false, by decide +kernel, iteF ?_⟩
      refine ⟨_, rfl, p, _, rfl, SqL.of (s2 _ _ upd_same), fun t ht => ?_⟩
      have s3 : Same (upd (upd H p (.lst (l.map V.int))) q (.lst (r.map V.int))) (upd (upd (upd H p (.lst (l.map V.int))) q (.lst (r.map V.int))) t (.lst (l.map V.int).reverse)) := same_new ht
      have ee : (l.map V.int).reverse = l.reverse.map V.int := by rw [List.map_reverse]
      rw [ee] at s3 ⊢
      refine ⟨.list (r.map .int), .list (l.reverse.map .int), dp_ints (SqL.of (s3 _ _ upd_same)), dp_ints (SqL.of upd_same), shaped_ints _, shaped_ints _, ?_⟩
      rw [eqv_list eqv_int]
      have e : decide (r = l.reverse) = decide (srt false r) := decide_eq_decide.mpr (srt_sorted false hperm hpw)
      rw [e]
      exact k _ ((s1.trans s2).trans s3)
/-- all are signs -/
def spIsWord (K : PySem.W.Frag) : Sp := fun vs H Q _ => ∃ (v : V) (w : List Int), vs = [v] ∧ Dp K H v (wD w) ∧ Sign w ∧ 1 ≤ w.length ∧ w.length ≤ 4 ∧ Ret H Q (.bl true)
theorem ok_isWord (T : Txt K mg D) : FnOk P w K mg base CX0 3 (D.d 40).f (D.d 40).fd ["thing"] (spIsWord K) := by
  refine T.w40.F.ok scIsWord (fun vs H Q E h => ?_) (fun cdv A outer s H vs Q E hr h => ?_)
  · obtain ⟨a, r, rfl, _⟩ := h
    rfl
  · obtain ⟨v, r, rfl, hv, hs, h1, h4, k⟩ := h
    obtain ⟨a, rfl, hS⟩ := get_w hv
    refine ⟨_, (pss_one (ps_ret (pe_and (pe_callB call_isi (by rfl) T.isinstance boot_isinstance (pa_cons (pv 0) (pa_cons (pe_bltn (v := .ty "tuple") (by rfl) T.tuple boot_tuple rfl) pa_nil))) (pe_and (pe_chain op_le op_le pe_int (pe_callB call_len_seq (by rfl) T.len boot_len (pa_cons (pv 0) pa_nil)) (pe_glob (v := .int 6) (by rfl) T.mostPieces.choose_spec ⟨_, rfl⟩)) (pe_one (pe_callB (cr_all rfl) (by rfl) T.all boot_all (pa_cons (pe_lc (own := [("sign", 1)]) (by rfl) scIsWord.nd (pi_tup (pv 0)) (blkOk_by (own := [("sign", 1)]) (N := ["thing", "sign"]) (sc := defScope sIsWord) (by decide +kernel)) (fun _ _ _ _ _ => (pg_name (i := 1) scIsWord.nd rfl (by first | exact Or.inl rfl | exact Or.inr rfl))) (fun _ _ _ _ _ => pts_nil) (fun _ _ _ _ _ => (pe_call (ok_isSign T) (hr.mono (by decide)) (by rfl) T.w8.m T.w8.F.kp T.w8.B .nil pass0 (pa_cons (pv 1) pa_nil)))) pa_nil))))))), ?_⟩
    refine ⟨_, rfl, _, _, _, _, true, rfl, .ty _, ty_tup hS, kit_ty (by decide +kernel), true, rfl, iteT ?_⟩
    refine ⟨_, rfl, _, _, rfl, .inr hS, _, _, rfl, rfl, true, congrArg V.bl (decide_eq_true (by rw [List.length_map]; omega)), iteT ⟨_, _, rfl, rfl, true, congrArg V.bl (decide_eq_true (by rw [List.length_map]; omega)), iteT ?_⟩⟩
    refine ⟨_, rfl, a, rfl, ⟨_, hS⟩, fun Dd hDd => ?_⟩
    refine lc_map (walk_tup (K := K) (a := a) (xs := r.map V.int)) (fun _ y _ => y = .bl true) hDd (by rw [List.length_map]; exact Nat.le_trans h4 (by decide)) (fun _ _ _ _ _ h => h) (fun H' s1 => tupS s1 hS) ?_ ?_
    · rintro i x Ha Hb Kk hi s1 ⟨rfl, ex⟩ kk
      rw [List.getElem?_map] at ex
      obtain ⟨z, hz, rfl⟩ := Option.map_eq_some_iff.mp ex
      exact ⟨rfl, _, rfl, z, rfl, hs z (List.mem_of_getElem? hz), fun H4 s4 => kk _ _ s4 rfl⟩
    · intro H' ys s1 e1 l1 r1
      refine ⟨Dd, List.replicate ys.length true, rfl, ?_, ?_⟩
      · rw [← all_true r1]; exact SqL.of e1
      rw [all_rep]
      exact k _ s1
def spCheckOrder : Sp := fun vs H Q _ => ∃ up : Bool, vs = [.str (ordS up)] ∧ Ret H Q .non
theorem ok_checkOrder (T : Txt K mg D) : FnOk P w K mg base CX0 1 (D.d 41).f (D.d 41).fd ["order"] spCheckOrder := by
  refine T.w41.F.ok scCheckOrder (fun vs H Q E h => ?_) (fun cdv A outer s H vs Q E hr h => ?_)
  · obtain ⟨a, rfl, _⟩ := h
    rfl
  · obtain ⟨up, rfl, k⟩ := h
    refine ⟨_, (pss_one (ps_if (PW.pt (pw_or (pt_not (pt_val (pe_callB call_isi (by rfl) T.isinstance boot_isinstance (pa_cons (pv 0) (pa_cons (pe_bltn (v := .ty "str") (by rfl) T.str boot_str rfl) pa_nil))))) (pw_or1 (pt_cmpR op_notIn_seq (pv 0) (pe_glob (v := .ref D.orders) (by rfl) T.ordersM rfl) (by rfl))))) (pss_one ps_never) pss_nil)), ?_⟩
    refine ⟨_, rfl, _, _, _, _, true, rfl, .ty _, .base (.str _), kit_ty (by decide +kernel), true, rfl, iteF ?_⟩
    refine ⟨_, rfl, _, _, rfl, .inr (T.ordersT _), rfl, rfl, false, ?_, iteF (k _ (Same.refl _))⟩
    cases up <;> decide +kernel
/-- good words -/
def WordsOk (ws : List (List Int)) : Prop := ∀ w ∈ ws, Sign w ∧ 1 ≤ w.length ∧ w.length ≤ 4
def spCheckWords (K : PySem.W.Frag) : Sp := fun vs H Q _ => ∃ a xs, ∃ ws : List (List Int), vs = [.ref a] ∧ SqA K H a xs ∧ DpAll K H xs (ws.map wD) ∧ WordsOk ws ∧ ws.length ≤ 4 ∧ Ret H Q .non
theorem ok_checkWords (T : Txt K mg D) : FnOk P w K mg base CX0 4 (D.d 42).f (D.d 42).fd ["words"] (spCheckWords K) := by
  refine T.w42.F.ok scCheckWords (fun vs H Q E h => ?_) (fun cdv A outer s H vs Q E hr h => ?_)
  · obtain ⟨a, r, _, rfl, _⟩ := h
    rfl
  · obtain ⟨a, xs, ws, rfl, hS, hx, hw, h4, k⟩ := h
    refine ⟨_, (pss_one (ps_if (PW.pt (pw_or (pt_not (pt_val (pe_callB call_isiT (by rfl) T.isinstance boot_isinstance (pa_cons (pv 0) (pa_cons (pe_tup (pa_cons (pe_bltn (v := .ty "list") (by rfl) T.list boot_list rfl) (pa_cons (pe_bltn (v := .ty "tuple") (by rfl) T.tuple boot_tuple rfl) pa_nil))) pa_nil))))) (pw_or1 (pt_not (pt_val (pe_callB (cr_all rfl) (by rfl) T.all boot_all (pa_cons (pe_lc (own := [("word", 1)]) (by rfl) scCheckWords.nd (pi_seq (pv 0)) (blkOk_by (own := [("word", 1)]) (N := ["words", "word"]) (sc := defScope sCheckWords) (by decide +kernel)) (fun _ _ _ _ _ => (pg_name (i := 1) scCheckWords.nd rfl (by first | exact Or.inl rfl | exact Or.inr rfl))) (fun _ _ _ _ _ => pts_nil) (fun _ _ _ _ _ => (pe_call (ok_isWord T) (hr.mono (by decide)) (by rfl) T.w40.m T.w40.F.kp T.w40.B .nil pass0 (pa_cons (pv 1) pa_nil)))) pa_nil))))))) (pss_one ps_never) pss_nil)), ?_⟩
    have hlx : xs.length = ws.length := by rw [hx.length]; simp
    refine ⟨_, rfl, by show 2 ≤ sizeLine; decide, fun p hp => ?_⟩
    have s0 : Same H (upd H p (.tup [.ty "list", .ty "tuple"])) := same_new hp
    have body : ∀ (Hx Hy : Hp) (x : V) (i : Nat), Same (upd H p (.tup [.ty "list", .ty "tuple"])) Hx → xs[i]? = some x → ∃ w, Dp K Hx x (wD w) ∧ Sign w ∧ 1 ≤ w.length ∧ w.length ≤ 4 := fun Hx Hy x i s1 ex => by
      obtain ⟨d, ed, hd⟩ := hx.getV ex
      rw [List.getElem?_map] at ed
      obtain ⟨z, hz, rfl⟩ := Option.map_eq_some_iff.mp ed
      obtain ⟨q1, q2, q3⟩ := hw z (List.mem_of_getElem? hz)
      exact ⟨z, hd.mono (s0.trans s1), q1, q2, q3⟩
    have fin : ∀ (Dd : Addr) (H' : Hp) (ys : List V), Same (upd H p (.tup [.ty "list", .ty "tuple"])) H' → H' Dd = some (.lst ys) → (∀ (i : Nat) (y : V), ys[i]? = some y → y = V.bl true) → SqL K H' Dd ((List.replicate ys.length true).map V.bl) := fun Dd H' ys s1 e1 r1 => by
      rw [← all_true r1]; exact SqL.of e1
    rcases hS with hS | hS
    · refine ⟨_, p, _, _, _, true, rfl, upd_same, cls_lt, ty_lst (s0.seq hS), kit_lt_l, true, rfl, iteF ?_⟩
      refine ⟨_, rfl, a, rfl, .inl ⟨⟨_, s0.seq hS⟩, fun Dd hDd => ?_⟩⟩
      refine lc_map (walk_list (K := K) (a := a) (xs := xs)) (fun _ y _ => y = .bl true) hDd (by rw [hlx]; exact Nat.le_trans h4 (by decide)) (fun _ _ _ _ _ h => h) (fun H' s1 => s1.seq (s0.seq hS)) ?_ ?_
      · rintro i x Ha Hb Kk hi s1 ⟨rfl, ex⟩ kk
        obtain ⟨w', q1, q2, q3, q4⟩ := body Hb Hb x i s1 ex
        exact ⟨rfl, _, rfl, x, w', rfl, q1, q2, q3, q4, fun H4 s4 => kk _ _ s4 rfl⟩
      · intro H' ys s1 e1 l1 r1
        refine ⟨Dd, List.replicate ys.length true, rfl, fin Dd H' ys s1 e1 r1, ?_⟩
        rw [all_rep]
        exact ⟨true, rfl, iteF (k _ (s0.trans s1))⟩
    · refine ⟨_, p, _, _, _, true, rfl, upd_same, cls_lt, ty_tup (tupS s0 hS), kit_lt_t, true, rfl, iteF ?_⟩
      refine ⟨_, rfl, a, rfl, .inr ⟨⟨_, tupS s0 hS⟩, fun Dd hDd => ?_⟩⟩
      refine lc_map (walk_tup (K := K) (a := a) (xs := xs)) (fun _ y _ => y = .bl true) hDd (by rw [hlx]; exact Nat.le_trans h4 (by decide)) (fun _ _ _ _ _ h => h) (fun H' s1 => tupS s1 (tupS s0 hS)) ?_ ?_
      · rintro i x Ha Hb Kk hi s1 ⟨rfl, ex⟩ kk
        obtain ⟨w', q1, q2, q3, q4⟩ := body Hb Hb x i s1 ex
        exact ⟨rfl, _, rfl, x, w', rfl, q1, q2, q3, q4, fun H4 s4 => kk _ _ s4 rfl⟩
      · intro H' ys s1 e1 l1 r1
        refine ⟨Dd, List.replicate ys.length true, rfl, fin Dd H' ys s1 e1 r1, ?_⟩
        rw [all_rep]
        exact ⟨true, rfl, iteF (k _ (s0.trans s1))⟩
end
end K6
set_option Elab.async false
set_option linter.all false
set_option maxRecDepth 100000
set_option maxHeartbeats 4000000
namespace K6
open PySem PySem.Spec PyProof.Rows L2
theorem small2 : 2 ≤ sizeLine := by decide
theorem lk_eq {f : Str} {v : V} {fs : List (Str × V)} : (putF f v fs).lookup f = some v := by rw [lookup_putF, if_pos rfl]
theorem lk_ne {f g : Str} {v : V} {fs : List (Str × V)} (h : g ≠ f) : (putF f v fs).lookup g = fs.lookup g := by rw [lookup_putF, if_neg h]
theorem len_putF {f : Str} {v : V} {fs : List (Str × V)} {n : Nat} (h : fs.length ≤ n) : (putF f v fs).length ≤ n + 1 := by
  have := length_putF f v fs
  omega
section
variable {H H1 H2 : Hp} {a p q r : Addr} {o u : HO}
theorem da_new (hq : H q = none) : Same (drp [a] H) (upd H q o) := drp_le.trans (same_new hq)
theorem da_upd : Same (drp [a] H) (upd H a o) := fun x u e => by
  have hx : x ≠ a := fun z => by rw [z, drp_in (by simp)] at e; cases e
  rw [upd_ne hx]
  exact drp_some e
theorem da_trans (h1 : Same (drp [a] H) H1) (h2 : Same (drp [a] H1) H2) : Same (drp [a] H) H2 := fun x u e => by
  have hx : x ≠ a := fun z => by rw [z, drp_in (by simp)] at e; cases e
  exact h2 x u (by rw [drp_not (by simpa using hx)]; exact h1 x u e)
theorem da_get (s : Same (drp [a] H) H2) (h : H p = some u) (n : p ≠ a) : H2 p = some u := s p u (by rw [drp_not (by simpa using n)]; exact h)
theorem da_none (s : Same (drp [a] H) H2) (h : H2 r = none) (n : r ≠ a) : H r = none := by
  cases e : H r with
  | none => rfl
  | some u => rw [da_get s e n] at h; cases h
end
theorem fsh_get {H H' : Hp} {p : Addr} {xs : List V} (s : Same H H') (h : H' p = some (.tup xs)) : fsh H H' p = some (.tup xs) := by
  cases q : H p with
  | none => rw [fsh_none q]; exact h
  | some o =>
    have e := s p o q
    rw [h] at e
    cases e
    rw [fsh_tup q rfl]; exact h
theorem own_tup {ls : List Addr} {H H' : Hp} {p : Addr} {xs : List V} (h : own ls H H' p = some (.tup xs)) : H' p = some (.tup xs) := own_le _ _ h
/-- no fields but a level's -/
def Only (fs : List (Str × V)) : Prop := ∀ g : Str, g ∉ levelF → fs.lookup g = none
theorem Only.put {f : Str} {v : V} {fs : List (Str × V)} (hf : f ∈ levelF) (h : Only fs) : Only (putF f v fs) := fun g hg => by
  rw [lk_ne (fun e => hg (by rw [e]; exact hf))]
  exact h g hg
/-- a level: the instance at a -/
structure LvI (D : Ads) (H : Hp) (a : Addr) (hv wv : V) (b : Bool) (E : List (Int × Int)) (t1 t2 : Bool) (n : Nat) (dx : Addr) (fs : List (Str × V)) (pl pr pt : Addr) : Prop where
  ins : H a = some (.ins D.level dx fs)
  halves : fs.lookup ("halves" : Str) = some hv
  way : fs.lookup ("way" : Str) = some wv
  same : fs.lookup ("is_same" : Str) = some (.bl b)
  left : fs.lookup ("left" : Str) = some (.ref pl)
  right : fs.lookup ("right" : Str) = some (.ref pr)
  turned : fs.lookup ("turned" : Str) = some (.ref pt)
  len : fs.length ≤ n
  hl : H pl = some (.lst (E.map fun c => V.int c.1))
  hr : H pr = some (.lst (E.map fun c => V.int c.2))
  ht : H pt = some (.lst [.bl t1, .bl t2])
  only : Only fs
theorem LvI.set3 {D : Ads} {H H' : Hp} {a : Addr} {hv wv : V} {b : Bool} {E E' : List (Int × Int)} {t1 t2 t1' t2' : Bool} {n : Nat} {dx : Addr} {fs : List (Str × V)} {pl pr pt pl' pr' pt' : Addr} (h : LvI D H a hv wv b E t1 t2 n dx fs pl pr pt)
    (e1 : H' a = some (.ins D.level dx (putF "turned" (.ref pt') (putF "right" (.ref pr') (putF "left" (.ref pl') fs))))) (e2 : H' pl' = some (.lst (E'.map fun c => V.int c.1))) (e3 : H' pr' = some (.lst (E'.map fun c => V.int c.2))) (e4 : H' pt' = some (.lst [.bl t1', .bl t2'])) :
    LvI D H' a hv wv b E' t1' t2' (n + 3) dx (putF "turned" (.ref pt') (putF "right" (.ref pr') (putF "left" (.ref pl') fs))) pl' pr' pt' :=
  ⟨e1, by rw [lk_ne (by decide), lk_ne (by decide), lk_ne (by decide)]; exact h.halves, by rw [lk_ne (by decide), lk_ne (by decide), lk_ne (by decide)]; exact h.way, by rw [lk_ne (by decide), lk_ne (by decide), lk_ne (by decide)]; exact h.same,
    by rw [lk_ne (by decide), lk_ne (by decide), lk_eq], by rw [lk_ne (by decide), lk_eq], lk_eq, len_putF (len_putF (len_putF h.len)), e2, e3, e4, ((h.only.put (by simp [levelF])).put (by simp [levelF])).put (by simp [levelF])⟩
theorem LvI.set2 {D : Ads} {H H' : Hp} {a : Addr} {hv wv : V} {b : Bool} {E E' : List (Int × Int)} {t1 t2 t1' t2' : Bool} {n : Nat} {dx : Addr} {fs : List (Str × V)} {pl pr pt pl' pr' : Addr} (h : LvI D H a hv wv b E t1 t2 n dx fs pl pr pt)
    (e1 : H' a = some (.ins D.level dx (putF "right" (.ref pr') (putF "left" (.ref pl') fs)))) (e2 : H' pl' = some (.lst (E'.map fun c => V.int c.1))) (e3 : H' pr' = some (.lst (E'.map fun c => V.int c.2))) (e4 : H' pt = some (.lst [.bl t1', .bl t2'])) :
    LvI D H' a hv wv b E' t1' t2' (n + 3) dx (putF "right" (.ref pr') (putF "left" (.ref pl') fs)) pl' pr' pt :=
  ⟨e1, by rw [lk_ne (by decide), lk_ne (by decide)]; exact h.halves, by rw [lk_ne (by decide), lk_ne (by decide)]; exact h.way, by rw [lk_ne (by decide), lk_ne (by decide)]; exact h.same,
    by rw [lk_ne (by decide), lk_eq], lk_eq, by rw [lk_ne (by decide), lk_ne (by decide)]; exact h.turned, Nat.le_succ_of_le (len_putF (len_putF h.len)), e2, e3, e4, (h.only.put (by simp [levelF])).put (by simp [levelF])⟩
theorem LvI.set1 {D : Ads} {H H' : Hp} {a : Addr} {hv wv : V} {b : Bool} {E : List (Int × Int)} {t1 t2 t1' t2' : Bool} {n : Nat} {dx : Addr} {fs : List (Str × V)} {pl pr pt pt' : Addr} (h : LvI D H a hv wv b E t1 t2 n dx fs pl pr pt)
    (e1 : H' a = some (.ins D.level dx (putF "turned" (.ref pt') fs))) (e2 : H' pl = some (.lst (E.map fun c => V.int c.1))) (e3 : H' pr = some (.lst (E.map fun c => V.int c.2))) (e4 : H' pt' = some (.lst [.bl t1', .bl t2'])) :
    LvI D H' a hv wv b E t1' t2' (n + 3) dx (putF "turned" (.ref pt') fs) pl pr pt' :=
  ⟨e1, by rw [lk_ne (by decide)]; exact h.halves, by rw [lk_ne (by decide)]; exact h.way, by rw [lk_ne (by decide)]; exact h.same,
    by rw [lk_ne (by decide)]; exact h.left, by rw [lk_ne (by decide)]; exact h.right, lk_eq, Nat.le_succ_of_le (Nat.le_succ_of_le (len_putF h.len)), e2, e3, e4, h.only.put (by simp [levelF])⟩
theorem ins_ne {H : Hp} {a p C dx : Addr} {fs : List (Str × V)} {xs : List V} (h1 : H a = some (.ins C dx fs)) (h2 : H p = some (.lst xs)) : p ≠ a := fun e => by
  rw [e, h1] at h2
  cases h2
section
variable {P : Program} {w : World} {K : PySem.W.Frag} {mg : Str → Option Value} {base : Heap} {D : Ads}
theorem Txt.lN (T : Txt K mg D) (f : Str) (h : f ∈ levelF := by simp [levelF]) : NoAttr K D.level f := T.levelN f h
def spLevelStep (K : PySem.W.Frag) (D : Ads) : Sp := fun vs H Q _ => ∃ (a : Addr) (sv hv wv : V) (b : Bool) (st : Stp) (E : List (Int × Int)) (t1 t2 : Bool) (n : Nat) (dx : Addr) (fs : List (Str × V)) (pl pr pt : Addr),
  vs = [.ref a, sv] ∧ Dp K H sv (stpD st) ∧ LvI D H a hv wv b E t1 t2 n dx fs pl pr pt ∧ n ≤ 500 ∧ E.length ≤ 100 ∧
  ∀ H' fs' pl' pr' pt', Same (drp [a] H) H' → (pl' = pl ∨ pl' = pr ∨ H pl' = none) → (pr' = pl ∨ pr' = pr ∨ H pr' = none) → (pt' = pt ∨ H pt' = none) →
    LvI D H' a hv wv b (stepC st (E, t1, t2)).1 (stepC st (E, t1, t2)).2.1 (stepC st (E, t1, t2)).2.2 (n + 3) dx fs' pl' pr' pt' → Q .non H'
theorem ok_levelStep (T : Txt K mg D) : FnOk P w K mg base CX0 2 (D.d 341).f (D.d 341).fd ["self", "step"] (spLevelStep K D) := by
  refine T.w341.F.ok scLevelStep (fun vs H Q E h => ?_) (fun cdv A outer s H vs Q E hr h => ?_)
  · obtain ⟨a, sv, _, _, _, _, _, _, _, _, _, _, _, _, _, rfl, _⟩ := h
    rfl
  · obtain ⟨a, sv, hv, wv, b, st, E, t1, t2, n, dx, fs, pl, pr, pt, rfl, hs, hI, hn, hE, k⟩ := h
    refine ⟨_, (pss_one (ps_match (pe_ix ix_tup (pv 1) pe_int (fun _ _ => rfl)) (pm_val pe_str (pss_cons (ps_asg (pe_tup (pa_cons (pe_fld (pv 0) (by rfl)) (pa_cons (pe_fld (pv 0) (by rfl)) pa_nil))) (pg_tup (by rfl) (pgs_cons (pg_att (pv 0)) (pgs_cons (pg_att (pv 0)) pgs_nil))))
      (pss_one (ps_fld (pv 0) (pe_revL (pe_fld (pv 0) (by rfl))) rfl))) (pm_val pe_str (pss_one (ps_if (pt_cmpR op_eq (pe_ix ix_tup (pv 1) pe_int (fun _ _ => rfl)) pe_str (nomark _)) (pss_cons (ps_asg (pe_tup (pa_cons (pe_fld (pv 0) (by rfl)) (pa_cons (pe_fld (pv 0) (by rfl)) pa_nil))) (pg_tup (by rfl) (pgs_cons (pg_att (pv 0)) (pgs_cons (pg_att (pv 0)) pgs_nil))))
      (pss_one (ps_fld (pv 0) (pe_lst (pa_cons (pe_not (pe_ix ix_list (pe_fld (pv 0) (by rfl)) pe_int (fun _ _ => rfl))) (pa_cons (pe_not (pe_ix ix_list (pe_fld (pv 0) (by rfl)) pe_int (fun _ _ => rfl))) pa_nil))) rfl))) (pss_cons (ps_set (i := 3) scLevelStep.nd rfl (by first | exact Or.inl rfl | exact Or.inr rfl) (pe_dget (hu_of hr) (pe_disp (pps_cons pe_str (pe_lst (pa_cons pe_bl (pa_cons pe_bl pa_nil))) (pps_cons pe_str (pe_lst (pa_cons pe_bl (pa_cons pe_bl pa_nil))) (pps_cons pe_str (pe_lst (pa_cons pe_bl (pa_cons pe_bl pa_nil))) pps_nil))) rfl rfl (by simp) (by decide)) (pe_ix ix_tup (pv 1) pe_int (fun _ _ => rfl)) (fun _ _ => rfl)))
      (pss_one (ps_fld (pv 0) (pe_lc (own := [("one", 4), ("is_flipped", 7)]) (by rfl) scLevelStep.nd (pi_zip (by rfl) T.zip (pa_cons (pe_fld (pv 0) (by rfl)) (pa_cons (pv 3) pa_nil))) (blkOk_by (own := [("one", 4), ("is_flipped", 7)]) (N := ["self", "step", "pairs", "sides", "one", "two", "pair", "is_flipped"]) (sc := defScope sLevelStep) (by decide +kernel)) (fun _ _ _ _ _ => (pg_tupK (n := 2) K (by rfl) (by rfl) (pgs_cons (pg_name (i := 4) scLevelStep.nd rfl (by first | exact Or.inl rfl | exact Or.inr rfl)) (pgs_cons (pg_name (i := 7) scLevelStep.nd rfl (by first | exact Or.inl rfl | exact Or.inr rfl)) pgs_nil)))) (fun _ _ _ _ _ => pts_nil) (fun _ _ _ _ _ => (pe_cmpR op_ne (pv 4) (pv 7) (nomark _)))) rfl))))) (pm_any (pss_cons (ps_setLc (i := 2) (own := [("one", 4), ("two", 5)]) (by rfl) scLevelStep.nd rfl rfl (sw_true rfl rfl rfl (by decide +kernel)) (pi_zip (by rfl) T.zip (pa_cons (pe_fld (pv 0) (by rfl)) (pa_cons (pe_fld (pv 0) (by rfl)) pa_nil))) (blkOk_by (own := [("one", 4), ("two", 5)]) (N := ["self", "step", "pairs", "sides", "one", "two", "pair", "is_flipped"]) (sc := defScope sLevelStep) (by decide +kernel)) (fun _ _ _ _ _ => (pg_tupK (n := 2) K (by rfl) (by rfl) (pgs_cons (pg_name (i := 4) scLevelStep.nd rfl (by first | exact Or.inl rfl | exact Or.inr rfl)) (pgs_cons (pg_name (i := 5) scLevelStep.nd rfl (by first | exact Or.inl rfl | exact Or.inr rfl)) pgs_nil)))) (fun _ _ _ _ _ => pts_nil) (fun _ _ _ _ _ => (pe_call (ok_orderPair T) (hr.mono (by decide)) (by rfl) T.w24.m T.w24.F.kp T.w24.B .nil pass0 (pa_cons (pv 4) (pa_cons (pv 5) (pa_cons (pe_ix (ix_tupK K (by rfl)) (pv 1) pe_int (fun _ _ => rfl)) pa_nil))))))
      (pss_one (ps_asg (pe_tup (pa_cons (pe_lc (own := [("pair", 6)]) (by rfl) scLevelStep.nd (pi_list (pv 2)) (blkOk_by (own := [("pair", 6)]) (N := ["self", "step", "pairs", "sides", "one", "two", "pair", "is_flipped"]) (sc := defScope sLevelStep) (by decide +kernel)) (fun _ _ _ _ _ => (pg_name (i := 6) scLevelStep.nd rfl (by first | exact Or.inl rfl | exact Or.inr rfl))) (fun _ _ _ _ _ => pts_nil) (fun _ _ _ _ _ => (pe_ix (ix_tupK K (by rfl)) (pv 6) pe_int (fun _ _ => rfl)))) (pa_cons (pe_lc (own := [("pair", 6)]) (by rfl) scLevelStep.nd (pi_list (pv 2)) (blkOk_by (own := [("pair", 6)]) (N := ["self", "step", "pairs", "sides", "one", "two", "pair", "is_flipped"]) (sc := defScope sLevelStep) (by decide +kernel)) (fun _ _ _ _ _ => (pg_name (i := 6) scLevelStep.nd rfl (by first | exact Or.inl rfl | exact Or.inr rfl))) (fun _ _ _ _ _ => pts_nil) (fun _ _ _ _ _ => (pe_ix (ix_tupK K (by rfl)) (pv 6) pe_int (fun _ _ => rfl)))) pa_nil))) (pg_tup (by rfl) (pgs_cons (pg_att (pv 0)) (pgs_cons (pg_att (pv 0)) pgs_nil))))))))))), ?_⟩
    obtain ⟨c, rfl, hc⟩ := stp_get hs
    have nl := ins_ne hI.ins hI.hl
    have nr := ins_ne hI.ins hI.hr
    have nt := ins_ne hI.ins hI.ht
    have hlen := hI.len
    have l1 : (putF "left" (.ref pr) fs).length ≤ n + 1 := len_putF hlen
    have l2 : (putF "right" (.ref pl) (putF "left" (.ref pr) fs)).length ≤ n + 2 := len_putF l1
    have fst_swap : (HO.lst (E.map fun c => V.int c.2)) = .lst ((E.map Prod.swap).map fun c => V.int c.1) := by rw [List.map_map]; rfl
    have snd_swap : (HO.lst (E.map fun c => V.int c.1)) = .lst ((E.map Prod.swap).map fun c => V.int c.2) := by rw [List.map_map]; rfl
    cases st with
    | swap =>
      refine ⟨_, rfl, _, _, _, _, rfl, rfl, hc, at_of (j := 0) rfl rfl, ?_⟩
      refine ⟨rfl, ?_⟩
      rw [decide_eq_true (by decide +kernel)]
      refine iteT ?_
      refine ⟨_, rfl, a, D.level, dx, fs, .ref pr, rfl, hI.ins, T.levelC, T.lN "right", hI.right, _, rfl, a, D.level, dx, fs, .ref pl, rfl, hI.ins, T.levelC, T.lN "left", hI.left, small2, fun q hq => ?_⟩
      refine ⟨q, _, rfl, SqT.of upd_same, rfl, ?_⟩
      have na : a ≠ q := ne_of_none hI.ins hq
      refine ⟨_, _, rfl, _, rfl, a, D.level, dx, fs, rfl, by rw [upd_ne na]; exact hI.ins, T.levelC, T.lN "left", by omega, ?_⟩
      refine ⟨_, _, rfl, _, rfl, a, D.level, dx, _, rfl, upd_same, T.levelC, T.lN "right", by omega, ?_⟩
      refine ⟨rfl, ?_⟩
      have s1 : Same (drp [a] H) (upd (upd (upd H q (.tup [.ref pr, .ref pl])) a (.ins D.level dx (putF "left" (.ref pr) fs))) a (.ins D.level dx (putF "right" (.ref pl) (putF "left" (.ref pr) fs)))) := da_trans (da_trans (da_new hq) da_upd) da_upd
      have ha1 : (upd (upd (upd H q (.tup [.ref pr, .ref pl])) a (.ins D.level dx (putF "left" (.ref pr) fs))) a (.ins D.level dx (putF "right" (.ref pl) (putF "left" (.ref pr) fs)))) a = some (.ins D.level dx (putF "right" (.ref pl) (putF "left" (.ref pr) fs))) := upd_same
      generalize upd (upd (upd H q (.tup [.ref pr, .ref pl])) a (.ins D.level dx (putF "left" (.ref pr) fs))) a (.ins D.level dx (putF "right" (.ref pl) (putF "left" (.ref pr) fs))) = H1 at s1 ha1 ⊢
      have ht1 : (putF "right" (.ref pl) (putF "left" (.ref pr) fs)).lookup ("turned" : Str) = some (.ref pt) := by rw [lk_ne (by decide), lk_ne (by decide)]; exact hI.turned
      refine ⟨_, rfl, a, D.level, dx, _, .ref pt, rfl, ha1, T.levelC, T.lN "turned", ht1, pt, _, rfl, SqL.of (da_get s1 hI.ht nt), fun r hr' => ?_⟩
      have na' : a ≠ r := ne_of_none ha1 hr'
      have Hr : H r = none := da_none s1 hr' (Ne.symm na')
      refine ⟨_, rfl, a, D.level, dx, _, rfl, by rw [upd_ne na']; exact ha1, T.levelC, T.lN "turned", by omega, ?_⟩
      have s2 := da_trans (da_trans s1 (da_new (o := .lst [.bl t2, .bl t1]) hr')) (da_upd (o := .ins D.level dx (putF "turned" (.ref r) (putF "right" (.ref pl) (putF "left" (.ref pr) fs)))))
      refine k _ _ pr pl r s2 (.inr (.inl rfl)) (.inl rfl) (.inr Hr) (hI.set3 upd_same ?_ ?_ ?_)
      · exact (da_get s2 hI.hr nr).trans (congrArg some fst_swap)
      · exact (da_get s2 hI.hl nl).trans (congrArg some snd_swap)
      · rw [upd_ne (Ne.symm na'), upd_same]; rfl
    | flip z =>
      refine ⟨_, rfl, _, _, _, _, rfl, rfl, hc, at_of (j := 0) rfl rfl, ?_⟩
      refine ⟨rfl, ?_⟩
      rw [decide_eq_false (by decide +kernel)]
      refine iteF ⟨rfl, ?_⟩
      rw [decide_eq_true (by decide +kernel)]
      refine iteT ?_
      refine ⟨_, rfl, _, _, _, .str (sdS z), rfl, rfl, hc, at_of (j := 1) rfl rfl, rfl, ?_⟩
      by_cases hz : z = .all
      · subst hz
        refine ⟨true, by decide +kernel, iteT ?_⟩
        refine ⟨_, rfl, a, D.level, dx, fs, .ref pr, rfl, hI.ins, T.levelC, T.lN "right", hI.right, _, rfl, a, D.level, dx, fs, .ref pl, rfl, hI.ins, T.levelC, T.lN "left", hI.left, small2, fun q hq => ?_⟩
        refine ⟨q, _, rfl, SqT.of upd_same, rfl, ?_⟩
        have na : a ≠ q := ne_of_none hI.ins hq
        refine ⟨_, _, rfl, _, rfl, a, D.level, dx, fs, rfl, by rw [upd_ne na]; exact hI.ins, T.levelC, T.lN "left", by omega, ?_⟩
        refine ⟨_, _, rfl, _, rfl, a, D.level, dx, _, rfl, upd_same, T.levelC, T.lN "right", by omega, ?_⟩
        refine ⟨rfl, ?_⟩
        have s1 : Same (drp [a] H) (upd (upd (upd H q (.tup [.ref pr, .ref pl])) a (.ins D.level dx (putF "left" (.ref pr) fs))) a (.ins D.level dx (putF "right" (.ref pl) (putF "left" (.ref pr) fs)))) := da_trans (da_trans (da_new hq) da_upd) da_upd
        have ha1 : (upd (upd (upd H q (.tup [.ref pr, .ref pl])) a (.ins D.level dx (putF "left" (.ref pr) fs))) a (.ins D.level dx (putF "right" (.ref pl) (putF "left" (.ref pr) fs)))) a = some (.ins D.level dx (putF "right" (.ref pl) (putF "left" (.ref pr) fs))) := upd_same
        generalize upd (upd (upd H q (.tup [.ref pr, .ref pl])) a (.ins D.level dx (putF "left" (.ref pr) fs))) a (.ins D.level dx (putF "right" (.ref pl) (putF "left" (.ref pr) fs))) = H1 at s1 ha1 ⊢
        have ht1 : (putF "right" (.ref pl) (putF "left" (.ref pr) fs)).lookup ("turned" : Str) = some (.ref pt) := by rw [lk_ne (by decide), lk_ne (by decide)]; exact hI.turned
        have gt := da_get s1 hI.ht nt
        refine ⟨_, rfl, a, D.level, dx, _, .ref pt, rfl, ha1, T.levelC, T.lN "turned", ht1, pt, _, _, .bl t2, rfl, rfl, SqL.of gt, at_of (j := 1) rfl rfl, t2, rfl, ?_⟩
        refine ⟨_, rfl, a, D.level, dx, _, .ref pt, rfl, ha1, T.levelC, T.lN "turned", ht1, pt, _, _, .bl t1, rfl, rfl, SqL.of gt, at_of (j := 0) rfl rfl, t1, rfl, small2, fun r hr' => ?_⟩
        have na' : a ≠ r := ne_of_none ha1 hr'
        have Hr : H r = none := da_none s1 hr' (Ne.symm na')
        refine ⟨_, rfl, a, D.level, dx, _, rfl, by rw [upd_ne na']; exact ha1, T.levelC, T.lN "turned", by omega, ?_⟩
        have s2 := da_trans (da_trans s1 (da_new (o := .lst [.bl (!t2), .bl (!t1)]) hr')) (da_upd (o := .ins D.level dx (putF "turned" (.ref r) (putF "right" (.ref pl) (putF "left" (.ref pr) fs)))))
        refine k _ _ pr pl r s2 (.inr (.inl rfl)) (.inl rfl) (.inr Hr) (hI.set3 upd_same ?_ ?_ ?_)
        · exact (da_get s2 hI.hr nr).trans (congrArg some fst_swap)
        · exact (da_get s2 hI.hl nl).trans (congrArg some snd_swap)
        · rw [upd_ne (Ne.symm na'), upd_same]; rfl
      · have hf : decide (V.str (sdS z) = V.str "all") = false := by cases z <;> first | exact absurd rfl hz | decide +kernel
        refine ⟨false, by rw [hf], iteF ?_⟩
        intro p hp
        refine ⟨small2, fun a1 h1 => ⟨small2, fun a2 h2 => ⟨small2, fun a3 h3 => ?_⟩⟩⟩
        have g1 : Same H (upd H p (.dK [])) := same_new hp
        have g2 := same_new (o := .lst [.bl true, .bl false]) h1
        have g3 := same_new (o := .lst [.bl false, .bl true]) h2
        have g4 := same_new (o := .lst [.bl true, .bl true]) h3
        refine ⟨g4 _ _ (g3 _ _ (g2 _ _ upd_same)), [(.inr "left", .ref a1), (.inr "right", .ref a2), (.inr "both", .ref a3)], rfl, by show 3 ≤ 15; decide, ?_⟩
        have np : H p = none := hp
        have f1 := g4 _ _ (g3 _ _ (upd_same (H := upd H p (.dK [])) (a := a1) (o := HO.lst [.bl true, .bl false])))
        have f2 := g4 _ _ (upd_same (H := upd (upd H p (.dK [])) a1 (.lst [.bl true, .bl false])) (a := a2) (o := HO.lst [.bl false, .bl true]))
        have f3 := upd_same (H := upd (upd (upd H p (.dK [])) a1 (.lst [.bl true, .bl false])) a2 (.lst [.bl false, .bl true])) (a := a3) (o := HO.lst [.bl true, .bl true])
        have gs : Same H (upd (upd (upd (upd H p (.dK [])) a1 (.lst [.bl true, .bl false])) a2 (.lst [.bl false, .bl true])) a3 (.lst [.bl true, .bl true])) := ((g1.trans g2).trans g3).trans g4
        have gp := g4 _ _ (g3 _ _ (g2 _ _ (upd_same (H := H) (a := p) (o := HO.dK []))))
        generalize upd (upd (upd (upd H p (.dK [])) a1 (.lst [.bl true, .bl false])) a2 (.lst [.bl false, .bl true])) a3 (.lst [.bl true, .bl true]) = Hd at f1 f2 f3 gs gp ⊢
        have n1 : a1 ≠ p := fun e => by rw [e, gp] at f1; cases f1
        have n2 : a2 ≠ p := fun e => by rw [e, gp] at f2; cases f2
        have n3 : a3 ≠ p := fun e => by rw [e, gp] at f3; cases f3
        refine ⟨_, rfl, _, _, _, .str (sdS z), rfl, rfl, tupS (same_upd_new gs np) hc, at_of (j := 1) rfl rfl, ?_⟩
        have key : ∃ ai b1 b2, valV (mergeK [] [((.inr "left" : L2.Key), V.ref a1), (.inr "right", .ref a2), (.inr "both", .ref a3)]) (.inr (sdS z)) = some (.ref ai) ∧ Hd ai = some (.lst [.bl b1, .bl b2]) ∧ ai ≠ p ∧ stepC (.flip z) (E, t1, t2) = (E, t1 != b1, t2 != b2) := by
          cases z with
          | left => exact ⟨a1, true, false, rfl, f1, n1, by cases t1 <;> cases t2 <;> rfl⟩
          | right => exact ⟨a2, false, true, rfl, f2, n2, by cases t1 <;> cases t2 <;> rfl⟩
          | both => exact ⟨a3, true, true, rfl, f3, n3, by cases t1 <;> cases t2 <;> rfl⟩
          | all => exact absurd rfl hz
        obtain ⟨ai, b1, b2, kv, kl, kn, ks⟩ := key
        rw [ks] at k
        refine ⟨p, .ref ai, rfl, .inl ⟨_, .inr (sdS z), .inl upd_same, rfl, kv.symm⟩, ?_⟩
        have gs2 : Same H (upd Hd p (.dK (mergeK [] [((.inr "left" : L2.Key), V.ref a1), (.inr "right", .ref a2), (.inr "both", .ref a3)]))) := same_upd_new gs np
        have kl2 : (upd Hd p (.dK (mergeK [] [((.inr "left" : L2.Key), V.ref a1), (.inr "right", .ref a2), (.inr "both", .ref a3)]))) ai = some (.lst [.bl b1, .bl b2]) := by rw [upd_ne kn]; exact kl
        generalize upd Hd p (.dK (mergeK [] [((.inr "left" : L2.Key), V.ref a1), (.inr "right", .ref a2), (.inr "both", .ref a3)])) = He at gs2 kl2 ⊢
        refine ⟨_, rfl, a, D.level, dx, fs, .ref pt, rfl, gs2 _ _ hI.ins, T.levelC, T.lN "turned", hI.turned, _, rfl, pt, ai, _, _, rfl, SqL.of (gs2 _ _ hI.ht), SqL.of kl2, fun Dd hDd => ?_⟩
        refine lc_map (walk_zip (n := 2) (xs := [.bl t1, .bl t2]) (ys := [.bl b1, .bl b2]) rfl) (fun i y _ => y = (match i with | 0 => V.bl (t1 != b1) | _ => .bl (t2 != b2))) hDd (by decide) (fun _ _ _ _ _ h => h) (fun H' s1 => ⟨SqL.of (s1 _ _ (gs2 _ _ hI.ht)), SqL.of (s1 _ _ kl2)⟩) ?_ ?_
        · rintro i x Ha Hb Kk hi s1 ⟨Tt, x1, y1, rfl, hT, rfl, e1, e2⟩ kk
          refine ⟨Tt, _, rfl, SqT.of upd_same, rfl, _, _, rfl, _, _, rfl, rfl, rfl, ?_⟩
          match i, hi with
          | 0, _ =>
            cases Option.some.inj e1
            cases Option.some.inj e2
            exact ⟨_, rfl, _, rfl, rfl, kk _ _ (same_new hT) (by cases t1 <;> cases b1 <;> rfl)⟩
          | 1, _ =>
            cases Option.some.inj e1
            cases Option.some.inj e2
            exact ⟨_, rfl, _, rfl, rfl, kk _ _ (same_new hT) (by cases t2 <;> cases b2 <;> rfl)⟩
        · intro H' ys s1 e1 l1 r1
          have ey : ys = [.bl (t1 != b1), .bl (t2 != b2)] := by
            match ys, l1, r1 with
            | [x, y], _, r1 => rw [r1 0 x rfl, r1 1 y rfl]; rfl
          subst ey
          have sH := gs2.trans s1
          have nD : H Dd = none := by
            cases q : H Dd with
            | none => rfl
            | some u => rw [gs2 _ _ q] at hDd; cases hDd
          have na' : a ≠ Dd := ne_of_none hI.ins nD
          refine ⟨_, rfl, a, D.level, dx, fs, rfl, sH _ _ hI.ins, T.levelC, T.lN "turned", by omega, ?_⟩
          have s2 : Same (drp [a] H) (upd H' a (.ins D.level dx (putF "turned" (.ref Dd) fs))) := da_trans (drp_le.trans sH) da_upd
          exact k _ _ pl pr Dd s2 (.inl rfl) (.inr (.inl rfl)) (.inr nD) (hI.set1 upd_same (da_get s2 hI.hl nl) (da_get s2 hI.hr nr) (by rw [upd_ne (Ne.symm na')]; exact e1))
    | cmp x up =>
      refine ⟨_, rfl, _, _, _, .str (kindS x), rfl, rfl, hc, at_of (j := 0) rfl rfl, ?_⟩
      refine ⟨rfl, ?_⟩
      rw [decide_eq_false (by cases x <;> decide +kernel)]
      refine iteF ⟨rfl, ?_⟩
      rw [decide_eq_false (by cases x <;> decide +kernel)]
      refine iteF ?_
      refine ⟨_, rfl, a, D.level, dx, fs, .ref pl, rfl, hI.ins, T.levelC, T.lN "left", hI.left, _, rfl, a, D.level, dx, fs, .ref pr, rfl, hI.ins, T.levelC, T.lN "right", hI.right, pl, pr, _, _, rfl, SqL.of hI.hl, SqL.of hI.hr, fun Dd hDd => ?_⟩
      have hEz : E.length ≤ sizeLine := Nat.le_trans hE (by decide)
      refine lc_map (walk_zip (n := E.length) (xs := E.map fun c => V.int c.1) (ys := E.map fun c => V.int c.2) (by simp)) (fun i y Hx => ∃ c p, E[i]? = some c ∧ y = .ref p ∧ Hx p = some (.tup [.int (ordP up c.1 c.2).1, .int (ordP up c.1 c.2).2])) hDd hEz (fun i y Ha Hb s1 ⟨c, p, q1, q2, q3⟩ => ⟨c, p, q1, q2, s1 _ _ q3⟩) (fun H' s1 => ⟨SqL.of (s1 _ _ hI.hl), SqL.of (s1 _ _ hI.hr)⟩) ?_ ?_
      · rintro i x' Ha Hb Kk hi s1 ⟨Tt, x1, y1, rfl, hT, rfl, e1, e2⟩ kk
        have e1 : (E.map fun c => V.int c.1)[i]? = some x1 := e1
        have e2 : (E.map fun c => V.int c.2)[i]? = some y1 := e2
        rw [List.getElem?_map] at e1 e2
        obtain ⟨cc, ec, rfl⟩ := Option.map_eq_some_iff.mp e1
        rw [ec] at e2
        cases Option.some.inj e2
        refine ⟨Tt, _, rfl, SqT.of upd_same, rfl, _, _, rfl, _, _, rfl, rfl, rfl, ?_⟩
        have sT : Same Ha (upd Ha Tt (.tup [.int cc.1, .int cc.2])) := same_new hT
        refine ⟨_, rfl, _, rfl, _, rfl, _, _, _, .str (ordS up), rfl, rfl, tupS (s1.trans sT) hc, at_of (j := 1) rfl rfl, cc.1, cc.2, up, rfl, fun H4 p4 s4 h4 => ?_⟩
        exact kk _ _ (sT.trans s4) ⟨cc, p4, ec, rfl, fsh_get (sT.trans s4) h4⟩
      · intro H' ys s1 e1 l1 r1
        have nD : H Dd = none := hDd
        have ysz : ys.length ≤ sizeLine := by rw [l1]; exact hEz
        have get : ∀ (i : Nat) (y : V), ys[i]? = some y → ∃ c p, E[i]? = some c ∧ y = .ref p ∧ H' p = some (.tup [.int (ordP up c.1 c.2).1, .int (ordP up c.1 c.2).2]) := fun i y e => by
          obtain ⟨c, p, q1, q2, q3⟩ := r1 i y e
          exact ⟨c, p, q1, q2, own_tup q3⟩
        have up2 : ∀ {H2 : Hp}, Same H' H2 → SqL K H2 Dd ys := fun {H2} h => SqL.of (h _ _ e1)
        refine ⟨_, rfl, Dd, rfl, ⟨_, up2 (Same.refl _)⟩, fun D1 hD1 => ?_⟩
        refine lc_map (walk_list (K := K) (a := Dd) (xs := ys)) (fun i y _ => ∃ c, E[i]? = some c ∧ y = .int (ordP up c.1 c.2).1) hD1 ysz (fun i y Ha Hb s1 h => h) (fun H2 s2 => up2 s2) ?_ ?_
        · rintro i x' Ha Hb Kk hi s2 ⟨rfl, ex⟩ kk
          obtain ⟨c', p, q1, rfl, q3⟩ := get i x' ex
          exact ⟨rfl, _, rfl, _, _, _, .int _, rfl, rfl, SqT.of (s2 _ _ q3), at_of (j := 0) rfl rfl, kk _ _ (Same.refl _) ⟨c', q1, rfl⟩⟩
        intro H2 us s2 e2 l2' r2
        refine ⟨_, rfl, Dd, rfl, ⟨_, up2 s2⟩, fun D2 hD2 => ?_⟩
        refine lc_map (walk_list (K := K) (a := Dd) (xs := ys)) (fun i y _ => ∃ c, E[i]? = some c ∧ y = .int (ordP up c.1 c.2).2) hD2 ysz (fun i y Ha Hb s1 h => h) (fun H3 s3 => up2 (s2.trans s3)) ?_ ?_
        · rintro i x' Ha Hb Kk hi s3 ⟨rfl, ex⟩ kk
          obtain ⟨c', p, q1, rfl, q3⟩ := get i x' ex
          exact ⟨rfl, _, rfl, _, _, _, .int _, rfl, rfl, SqT.of ((s2.trans s3) _ _ q3), at_of (j := 1) rfl rfl, kk _ _ (Same.refl _) ⟨c', q1, rfl⟩⟩
        intro H3 ws s3 e3 l3 r3
        refine ⟨small2, fun q hq => ⟨q, _, rfl, SqT.of upd_same, rfl, ?_⟩⟩
        have sA : Same H H3 := (s1.trans s2).trans s3
        have sq : Same H3 (upd H3 q (.tup [.ref D1, .ref D2])) := same_new hq
        have na : a ≠ q := ne_of_none (sA _ _ hI.ins) hq
        refine ⟨_, _, rfl, _, rfl, a, D.level, dx, fs, rfl, by rw [upd_ne na]; exact sA _ _ hI.ins, T.levelC, T.lN "left", by omega, ?_⟩
        have m1 : (putF "left" (.ref D1) fs).length ≤ n + 1 := len_putF hlen
        refine ⟨_, _, rfl, _, rfl, a, D.level, dx, _, rfl, upd_same, T.levelC, T.lN "right", by omega, rfl, ?_⟩
        have nD1 : H D1 = none := by
          cases q : H D1 with
          | none => rfl
          | some u => rw [s1 _ _ q] at hD1; cases hD1
        have nD2 : H D2 = none := by
          cases q : H D2 with
          | none => rfl
          | some u => rw [(s1.trans s2) _ _ q] at hD2; cases hD2
        have sF : Same (drp [a] H) (upd (upd (upd H3 q (.tup [.ref D1, .ref D2])) a (.ins D.level dx (putF "left" (.ref D1) fs))) a (.ins D.level dx (putF "right" (.ref D2) (putF "left" (.ref D1) fs)))) := da_trans (da_trans (drp_le.trans (sA.trans sq)) da_upd) da_upd
        have k1 : D1 ≠ a := fun e => by rw [e, hI.ins] at nD1; cases nD1
        have k2 : D2 ≠ a := fun e => by rw [e, hI.ins] at nD2; cases nD2
        have eu : us = (stepC (.cmp x up) (E, t1, t2)).1.map fun c => V.int c.1 := by
          refine List.ext_getElem? fun i => ?_
          show _ = ((E.map fun c => ordP up c.1 c.2).map fun c => V.int c.1)[i]?
          rw [List.map_map, List.getElem?_map]
          cases q : us[i]? with
          | some y =>
            obtain ⟨c', q1, rfl⟩ := r2 i y q
            rw [q1]; rfl
          | none =>
            rw [List.getElem?_eq_none_iff] at q
            rw [List.getElem?_eq_none (by rw [l2', l1] at q; exact q)]; rfl
        have ew : ws = (stepC (.cmp x up) (E, t1, t2)).1.map fun c => V.int c.2 := by
          refine List.ext_getElem? fun i => ?_
          show _ = ((E.map fun c => ordP up c.1 c.2).map fun c => V.int c.2)[i]?
          rw [List.map_map, List.getElem?_map]
          cases q : ws[i]? with
          | some y =>
            obtain ⟨c', q1, rfl⟩ := r3 i y q
            rw [q1]; rfl
          | none =>
            rw [List.getElem?_eq_none_iff] at q
            rw [List.getElem?_eq_none (by rw [l3, l1] at q; exact q)]; rfl
        refine k _ _ D1 D2 pt sF (.inr (.inr nD1)) (.inr (.inr nD2)) (.inl rfl) (hI.set2 upd_same ?_ ?_ (da_get sF hI.ht nt))
        · rw [upd_ne k1, upd_ne k1, sq _ _ (s3 _ _ e2), eu]
        · rw [upd_ne k2, upd_ne k2, sq _ _ e3, ew]
end
end K6
set_option Elab.async false
set_option linter.all false
set_option maxRecDepth 100000
set_option maxHeartbeats 4000000
namespace K6
open PySem PySem.Spec PyProof.Rows L2
theorem getD_at {l : List Int} {i : Nat} (h : i < l.length) : l[i]? = some (l.getD i 0) := by
  rw [List.getD, List.getElem?_eq_getElem h]; rfl
theorem eqv_bool (a b : Bool) : PyData.eqv (.bool a) (.bool b) = decide (a = b) := by
  rw [PyData.eqv]; exact beq_dec a b
theorem shaped_bools (l : List Bool) : SeqAt.shaped (.list (l.map .bool)) = true := by
  unfold SeqAt.shaped
  have h1 : PyData.canLay0 (.list (l.map .bool)) = true := by rw [PyData.canLay0]; exact canLay_map (fun a => by rw [PyData.canLay0]) l
  have h2 : PyData.depth (.list (l.map .bool)) ≤ 64 := by
    rw [PyData.depth]
    have := depth_map (f := PyData.bool) (n := 0) (fun a => by rw [PyData.depth]; exact Nat.le_refl 0) l
    omega
  rw [h1, decide_eq_true h2]; rfl
/-- the halves of a level -/
abbrev halvesD (l : Lev) : PyData := .tuple [wD l.lw, wD l.rw, .bool l.win]
theorem noL_halves (l : Lev) : noL (halvesD l) = true := by
  show noL (.tuple [wD l.lw, wD l.rw, .bool l.win]) = true
  rw [noL, noLs, noLs, noLs, noLs, noL_w, noL_w, noL]; rfl
theorem noL_stps (st : List Stp) : noL (stpsD st) = true := by
  show noL (.tuple _) = true
  rw [noL]; exact noLs_map noL_stp
theorem halves_get {K : PySem.W.Frag} {H : Hp} {v : V} {l : Lev} (h : Dp K H v (halvesD l)) : ∃ a la ra, v = .ref a ∧ SqT K H a [.ref la, .ref ra, .bl l.win] ∧ SqT K H la (l.lw.map V.int) ∧ SqT K H ra (l.rw.map V.int) := by
  obtain ⟨a, xs, rfl, h1, h2⟩ := h.tuple
  cases h2 with
  | cons k0 h2 =>
    cases h2 with
    | cons k1 h2 =>
      cases h2 with
      | cons k2 h2 =>
        cases h2
        obtain ⟨la, rfl, e1⟩ := get_w k0
        obtain ⟨ra, rfl, e2⟩ := get_w k1
        cases k2
        exact ⟨a, la, ra, rfl, h1, e1, e2⟩
theorem way_item {K : PySem.W.Frag} {H : Hp} {xs : List V} {w : List (Nat × Nat)} (h : DpAll K H xs (w.map fun p => .tuple [.int p.1, .int p.2])) {i : Nat} {x : V} (e : xs[i]? = some x) : ∃ p a, w[i]? = some p ∧ x = .ref a ∧ SqT K H a [.int p.1, .int p.2] := by
  obtain ⟨d, ed, hd⟩ := h.getV e
  rw [List.getElem?_map] at ed
  obtain ⟨p, ep, rfl⟩ := Option.map_eq_some_iff.mp ed
  obtain ⟨a, ys, rfl, h1, h2⟩ := hd.tuple
  cases h2 with
  | cons k0 h2 =>
    cases h2 with
    | cons k1 h2 =>
      cases h2
      cases k0
      cases k1
      exact ⟨p, a, ep, rfl, h1⟩
theorem dp_drp {K : PySem.W.Frag} {H : Hp} {a : Addr} {o : HO} (h : H a = some o) (ho : isTup o = false) {v : V} {d : PyData} (n : noL d = true) (hd : Dp K H v d) : Dp K (drp [a] H) v d :=
  (dp_own (Same.refl _) (fun l q => by rw [List.mem_singleton.mp q]; exact ⟨o, h, ho⟩) n hd).mono (drp_same fsh_le)
theorem tup_drp {K : PySem.W.Frag} {H : Hp} {a p : Addr} {o : HO} {xs : List V} (h : H a = some o) (ho : isTup o = false) (hp : SqT K H p xs) : SqT K (drp [a] H) p xs :=
  tupS (drp_same fsh_le) (tup_own (ls := [a]) (Same.refl _) (fun l q => by rw [List.mem_singleton.mp q]; exact ⟨o, h, ho⟩) hp)
theorem told_same {K : PySem.W.Frag} {σ : L2.St} {H : Hp} {Q : VK} {i : Nat} {tp : Addr} {bs : List Bool} (h0 : σ[i]? = some (some (.ref tp))) (h1 : SqL K H tp (bs.map V.bl))
    (k : ∀ q, H q = none → Q (.bl (bs.head?.getD true)) (upd H q (.lst []))) : tOrV (tOp (rEqD K) (tVar i) (tLst tNil)) (tOp (rIxL K) (tVar i) (tC (.int 0))) σ H Q := by
  refine ⟨_, h0, Nat.zero_le _, fun q hq => ?_⟩
  have sq : Same H (upd H q (.lst [])) := same_new hq
  refine ⟨.list (bs.map .bool), .list (([] : List Bool).map .bool), .lst (sq.seq h1) (DpAll.bools _), .lst (SqL.of upd_same) .nil, shaped_bools _, shaped_bools _, ?_⟩
  rw [eqv_list eqv_bool]
  have kq := k q hq
  cases bs with
  | nil => exact ⟨true, rfl, iteT kq⟩
  | cons b bs =>
    refine ⟨false, rfl, iteF ⟨_, h0, tp, _, _, .bl b, rfl, rfl, sq.seq h1, at_of (j := 0) rfl rfl, kq⟩⟩
theorem right_join {K : PySem.W.Frag} {σ : L2.St} {H : Hp} {Q : VK} {tt : TT} {te : TE} {rw : List Int} (sm : Bool) (ht : ∀ G : Bool → Hp → Prop, G sm H → tt σ H G) {ra : Addr} (hr : SqT K H ra (rw.map V.int)) (he : ∀ G : VK, G (.ref ra) H → te σ H G)
    (k : ∀ rr H1, Same H H1 → SqT K H1 rr ((flipIf (!sm) rw).map V.int) → Q (.ref rr) H1) : tIf tt te (tRevT K te) σ H Q := by
  refine ht _ ?_
  cases sm with
  | true => exact iteT (he _ (k _ _ (Same.refl _) hr))
  | false =>
    refine iteF (he _ ⟨ra, _, rfl, hr, fun p hp => k _ _ (same_new hp) ?_⟩)
    have e : (rw.map V.int).reverse = (flipIf (!false) rw).map V.int := by
      show _ = (rw.reverse).map V.int
      rw [List.map_reverse]
    rw [← e]
    exact SqT.of upd_same
section
variable {P : Program} {w : World} {K : PySem.W.Frag} {mg : Str → Option Value} {base : Heap} {D : Ads}
def InR (l : Lev) : Prop := ∀ p ∈ l.way, p.1 < l.lw.length ∧ p.2 < l.rw.length
def spLevelInit (K : PySem.W.Frag) (D : Ads) : Sp := fun vs H Q _ => ∃ (a dx : Addr) (sv hv wv : V) (st : List Stp) (l : Lev), vs = [.ref a, sv, hv, wv] ∧ H a = some (.ins D.level dx []) ∧ Dp K H sv (stpsD st) ∧ st.length ≤ 3 ∧ Dp K H hv (halvesD l) ∧ Dp K H wv (wayD l.way) ∧ InR l ∧ l.way.length ≤ 100 ∧
  ∀ H' fs pl pr pt, Same (drp [a] H) H' → H pl = none → H pr = none → H pt = none → LvI D H' a hv wv (same st) (finC st (cols (same st) l)).1 (finC st (cols (same st) l)).2.1 (finC st (cols (same st) l)).2.2 50 dx fs pl pr pt → Q .non H'
theorem ok_levelInit (T : Txt K mg D) : FnOk P w K mg base CX0 3 (D.d 340).f (D.d 340).fd ["self", "steps", "halves", "way"] (spLevelInit K D) := by
  refine T.w340.F.ok scLevelInit (fun vs H Q E h => ?_) (fun cdv A outer s H vs Q E hr h => ?_)
  · obtain ⟨a, dx, _, _, _, _, _, rfl, _⟩ := h
    rfl
  · obtain ⟨a, dx, sv, hv, wv, st, l, rfl, ha, hs, h3, hh, hw, inr, hw1, k⟩ := h
    refine ⟨_, (pss_cons (ps_fld (pv 0) (pv 2) rfl)
      (pss_cons (ps_fld (pv 0) (pv 3) rfl)
      (pss_cons (ps_set (i := 4) scLevelInit.nd rfl (by first | exact Or.inl rfl | exact Or.inr rfl) (pe_call (ok_relations T) (hr.mono (by decide)) (by rfl) T.w22.m T.w22.F.kp T.w22.B .nil pass0 (pa_cons (pv 1) pa_nil)))
      (pss_cons (ps_fld (pv 0) (pe_or (pe_cmpR (op_eqD hr.units) (pv 4) (pe_lst pa_nil) (nomark _)) (pe_one (pe_ix ix_list (pv 4) pe_int (fun _ _ => rfl)))) rfl)
      (pss_cons (ps_asg (pe_tup (pa_cons (pe_ix ix_tup (pv 2) pe_int (fun _ _ => rfl)) (pa_cons (pe_ifExp (pt_val (pe_fld (pv 0) (by rfl))) (pe_ix ix_tup (pv 2) pe_int (fun _ _ => rfl)) (pe_revT (pe_ix ix_tup (pv 2) pe_int (fun _ _ => rfl)))) pa_nil))) (pg_tup (by rfl) (pgs_cons (pg_name (i := 6) scLevelInit.nd rfl (by first | exact Or.inl rfl | exact Or.inr rfl)) (pgs_cons (pg_name (i := 7) scLevelInit.nd rfl (by first | exact Or.inl rfl | exact Or.inr rfl)) pgs_nil))))
      (pss_cons (ps_fld (pv 0) (pe_lc (own := [("one", 8), ("other", 9)]) (by rfl) scLevelInit.nd (pi_tup (pv 3)) (blkOk_by (own := [("one", 8), ("other", 9)]) (N := ["self", "steps", "halves", "way", "told", "step", "left", "right", "one", "other"]) (sc := defScope sLevelInit) (by decide +kernel)) (fun _ _ _ _ _ => (pg_tupK (n := 2) K (by rfl) (by rfl) (pgs_cons (pg_name (i := 8) scLevelInit.nd rfl (by first | exact Or.inl rfl | exact Or.inr rfl)) (pgs_cons (pg_name (i := 9) scLevelInit.nd rfl (by first | exact Or.inl rfl | exact Or.inr rfl)) pgs_nil)))) (fun _ _ _ _ _ => pts_nil) (fun _ _ _ _ _ => (pe_ix (ix_tupK K (by rfl)) (pv 6) (pv 8) (fun _ _ => rfl)))) rfl)
      (pss_cons (ps_fld (pv 0) (pe_lc (own := [("one", 8), ("other", 9)]) (by rfl) scLevelInit.nd (pi_tup (pv 3)) (blkOk_by (own := [("one", 8), ("other", 9)]) (N := ["self", "steps", "halves", "way", "told", "step", "left", "right", "one", "other"]) (sc := defScope sLevelInit) (by decide +kernel)) (fun _ _ _ _ _ => (pg_tupK (n := 2) K (by rfl) (by rfl) (pgs_cons (pg_name (i := 8) scLevelInit.nd rfl (by first | exact Or.inl rfl | exact Or.inr rfl)) (pgs_cons (pg_name (i := 9) scLevelInit.nd rfl (by first | exact Or.inl rfl | exact Or.inr rfl)) pgs_nil)))) (fun _ _ _ _ _ => pts_nil) (fun _ _ _ _ _ => (pe_ix (ix_tupK K (by rfl)) (pv 7) (pv 9) (fun _ _ => rfl)))) rfl)
      (pss_cons (ps_fld (pv 0) (pe_lst (pa_cons pe_bl (pa_cons (pe_not (pe_fld (pv 0) (by rfl))) pa_nil))) rfl)
      (pss_one (ps_for PassesOwn.never rfl (pi_tup (pv 1)) (pg_name (i := 5) scLevelInit.nd rfl (by first | exact Or.inl rfl | exact Or.inr rfl)) (pss_one (ps_expr (pe_meth (pv 0) T.levelC T.w341.M (ok_levelStep T) (hr.mono (by decide)) T.w341.B .nil pass0 (pa_cons (pv 5) pa_nil)))))))))))))), ?_⟩
    have hs0 := dp_drp ha rfl (noL_stps st) hs
    have hh0 := dp_drp ha rfl (noL_halves l) hh
    have hw0 := dp_drp ha rfl (noL_way l.way) hw
    -- self.halves, self.way
    refine ⟨_, rfl, _, rfl, a, D.level, dx, [], rfl, ha, T.levelC, T.lN "halves", by decide, ?_⟩
    refine ⟨_, rfl, _, rfl, a, D.level, dx, _, rfl, upd_same, T.levelC, T.lN "way", by show 1 < 1000; decide, ?_⟩
    have s1 : Same (drp [a] H) (upd (upd H a (.ins D.level dx (putF "halves" hv []))) a (.ins D.level dx (putF "way" wv (putF "halves" hv [])))) := da_trans da_upd da_upd
    have a1 : (upd (upd H a (.ins D.level dx (putF "halves" hv []))) a (.ins D.level dx (putF "way" wv (putF "halves" hv [])))) a = some (.ins D.level dx (putF "way" wv (putF "halves" hv []))) := upd_same
    generalize upd (upd H a (.ins D.level dx (putF "halves" hv []))) a (.ins D.level dx (putF "way" wv (putF "halves" hv []))) = H1 at s1 a1 ⊢
    have on1 : Only (putF "way" wv (putF "halves" hv [])) := (Only.put (by simp [levelF]) (fun g _ => rfl)).put (by simp [levelF])
    have lk1 : (putF "way" wv (putF "halves" hv [])).lookup ("halves" : Str) = some hv := by rw [lk_ne (by decide), lk_eq]
    have lk2 : (putF "way" wv (putF "halves" hv [])).lookup ("way" : Str) = some wv := lk_eq
    have len1 : (putF "way" wv (putF "halves" hv [])).length ≤ 2 := len_putF (len_putF (Nat.le_refl 0))
    generalize putF "way" wv (putF "halves" hv []) = fs1 at a1 lk1 lk2 len1 on1 ⊢
    -- told
    refine ⟨_, rfl, sv, st, rfl, hs0.mono s1, h3, fun H2 tv s2 ht => ?_⟩
    have hT := ht.mono fsh_le
    obtain ⟨tp, txs, rfl, ht1, ht2⟩ := id hT
    have etx := DpAll.of_bools ht2
    subst etx
    have a2 := s2 _ _ a1
    have sA2 : Same (drp [a] H) H2 := s1.trans s2
    -- self.is_same
    refine told_same (bs := rels true st) rfl (SqL.of ht1) fun q hq => ?_
    have sq : Same H2 (upd H2 q (.lst [])) := same_new hq
    refine ⟨_, rfl, a, D.level, dx, _, rfl, sq _ _ a2, T.levelC, T.lN "is_same", by omega, ?_⟩
    have sA3 : Same (drp [a] H) (upd (upd H2 q (.lst [])) a (.ins D.level dx (putF "is_same" (.bl (same st)) fs1))) := da_trans (sA2.trans sq) da_upd
    have a3 : (upd (upd H2 q (.lst [])) a (.ins D.level dx (putF "is_same" (.bl (same st)) fs1))) a = some (.ins D.level dx (putF "is_same" (.bl (same st)) fs1)) := upd_same
    have lk3 : (putF "is_same" (.bl (same st)) fs1).lookup ("halves" : Str) = some hv := by rw [lk_ne (by decide)]; exact lk1
    have lk4 : (putF "is_same" (.bl (same st)) fs1).lookup ("way" : Str) = some wv := by rw [lk_ne (by decide)]; exact lk2
    have lk5 : (putF "is_same" (.bl (same st)) fs1).lookup ("is_same" : Str) = some (.bl (same st)) := lk_eq
    have on3 : Only (putF "is_same" (.bl (same st)) fs1) := on1.put (by simp [levelF])
    have len3 : (putF "is_same" (.bl (same st)) fs1).length ≤ 3 := len_putF len1
    change tSeq _ _ _ _ (upd (upd H2 q (.lst [])) a (.ins D.level dx (putF "is_same" (.bl (same st)) fs1)))
    generalize upd (upd H2 q (.lst [])) a (.ins D.level dx (putF "is_same" (.bl (same st)) fs1)) = H3 at sA3 a3 ⊢
    generalize putF "is_same" (.bl (same st)) fs1 = fs3 at a3 lk3 lk4 lk5 len3 on3 ⊢
    obtain ⟨hp, la, ra, rfl, hb1, hb2, hb3⟩ := halves_get (hh0.mono sA3)
    refine ⟨_, rfl, hp, _, _, .ref la, rfl, rfl, hb1, at_of (j := 0) rfl rfl, ?_⟩
    refine right_join (same st) (fun G q => ⟨_, rfl, a, D.level, dx, fs3, .bl (same st), rfl, a3, T.levelC, T.lN "is_same", lk5, same st, rfl, q⟩) hb3 (fun G q => ⟨_, rfl, hp, _, _, .ref ra, rfl, rfl, hb1, at_of (j := 1) rfl rfl, q⟩) fun rr H4 s4 hrr => ?_
    refine ⟨small2, fun q2 hq2 => ⟨q2, _, rfl, SqT.of upd_same, rfl, _, _, rfl, _, _, rfl, rfl, ?_⟩⟩
    have s5 : Same H3 (upd H4 q2 (.tup [.ref la, .ref rr])) := s4.trans (same_new hq2)
    have hrr5 := tupS (same_new (o := .tup [.ref la, .ref rr]) hq2) hrr
    have hla5 := tupS s5 hb2
    have a5 := s5 _ _ a3
    have sA5 : Same (drp [a] H) (upd H4 q2 (.tup [.ref la, .ref rr])) := sA3.trans s5
    generalize upd H4 q2 (.tup [.ref la, .ref rr]) = H5 at s5 hrr5 hla5 a5 sA5 ⊢
    -- self.left
    obtain ⟨wp, wxs, rfl, hw1p, hw2p⟩ := (hw0.mono sA5).tuple
    have hlw : wxs.length = l.way.length := by rw [hw2p.length]; simp
    have hwz : wxs.length ≤ sizeLine := by rw [hlw]; exact Nat.le_trans hw1 (by decide)
    refine ⟨_, rfl, wp, rfl, ⟨_, hw1p⟩, fun D1 hD1 => ?_⟩
    refine lc_map (walk_tup (K := K) (a := wp) (xs := wxs)) (fun i y _ => ∃ p, l.way[i]? = some p ∧ y = .int (l.lw.getD p.1 0)) hD1 hwz (fun i y Ha Hb s1 h => h) (fun H' s1 => tupS s1 hw1p) ?_ ?_
    · rintro i x Ha Hb Kk hi s6 ⟨rfl, ex⟩ kk
      obtain ⟨p, ap, ep, rfl, hp2⟩ := way_item hw2p ex
      have hlt := (inr p (List.mem_of_getElem? ep)).1
      refine ⟨ap, _, rfl, tupS s6 hp2, rfl, _, _, rfl, _, _, rfl, rfl, rfl, ?_⟩
      refine ⟨_, rfl, _, rfl, la, _, _, .int (l.lw.getD p.1 0), rfl, rfl, tupS s6 hla5, at_of (j := p.1) rfl ?_, kk _ _ (Same.refl _) ⟨p, ep, rfl⟩⟩
      rw [List.getElem?_map, getD_at hlt]; rfl
    intro H6 us s6 e6 l6 r6
    have a6 := s6 _ _ a5
    refine ⟨_, rfl, a, D.level, dx, fs3, rfl, a6, T.levelC, T.lN "left", by omega, ?_⟩
    have sA6 := sA5.trans s6
    have nD1 : H D1 = none := by
      have n1 : D1 ≠ a := fun e => by rw [e, a5] at hD1; cases hD1
      exact da_none sA5 hD1 n1
    have k1 : D1 ≠ a := fun e => by rw [e, a5] at hD1; cases hD1
    have sA7 : Same (drp [a] H) (upd H6 a (.ins D.level dx (putF "left" (.ref D1) fs3))) := da_trans sA6 da_upd
    have sB7 : Same (drp [a] H5) (upd H6 a (.ins D.level dx (putF "left" (.ref D1) fs3))) := da_trans (drp_le.trans s6) da_upd
    have a7 : (upd H6 a (.ins D.level dx (putF "left" (.ref D1) fs3))) a = some (.ins D.level dx (putF "left" (.ref D1) fs3)) := upd_same
    have d7 : (upd H6 a (.ins D.level dx (putF "left" (.ref D1) fs3))) D1 = some (.lst us) := by rw [upd_ne k1]; exact e6
    have q1 : (putF "left" (.ref D1) fs3).lookup ("left" : Str) = some (.ref D1) := lk_eq
    have q2 : (putF "left" (.ref D1) fs3).lookup ("halves" : Str) = some (.ref hp) := by rw [lk_ne (by decide)]; exact lk3
    have q3 : (putF "left" (.ref D1) fs3).lookup ("way" : Str) = some (.ref wp) := by rw [lk_ne (by decide)]; exact lk4
    have q4 : (putF "left" (.ref D1) fs3).lookup ("is_same" : Str) = some (.bl (same st)) := by rw [lk_ne (by decide)]; exact lk5
    have on7 : Only (putF "left" (.ref D1) fs3) := on3.put (by simp [levelF])
    have len7 : (putF "left" (.ref D1) fs3).length ≤ 4 := len_putF len3
    have w7 : SqT K (upd H6 a (.ins D.level dx (putF "left" (.ref D1) fs3))) wp wxs := tupS sB7 (tup_drp a5 rfl hw1p)
    have rr7 : SqT K (upd H6 a (.ins D.level dx (putF "left" (.ref D1) fs3))) rr ((flipIf (!same st) l.rw).map V.int) := tupS sB7 (tup_drp a5 rfl hrr5)
    change tSeq _ _ _ _ (upd H6 a (.ins D.level dx (putF "left" (.ref D1) fs3)))
    have it7 : ∀ (i : Nat) (x : V), wxs[i]? = some x → ∃ p ap, l.way[i]? = some p ∧ x = .ref ap ∧ SqT K (upd H6 a (.ins D.level dx (putF "left" (.ref D1) fs3))) ap [.int p.1, .int p.2] := fun i x ex => by
      obtain ⟨p, ap, ep, rfl, hp2⟩ := way_item hw2p ex
      exact ⟨p, ap, ep, rfl, tupS sB7 (tup_drp a5 rfl hp2)⟩
    generalize upd H6 a (.ins D.level dx (putF "left" (.ref D1) fs3)) = H7 at sA7 sB7 a7 d7 w7 rr7 it7 ⊢
    generalize putF "left" (.ref D1) fs3 = fs7 at a7 q1 q2 q3 q4 len7 on7 ⊢
    -- self.right
    refine ⟨_, rfl, wp, rfl, ⟨_, w7⟩, fun D2 hD2 => ?_⟩
    refine lc_map (walk_tup (K := K) (a := wp) (xs := wxs)) (fun i y _ => ∃ p, l.way[i]? = some p ∧ y = .int ((flipIf (!same st) l.rw).getD p.2 0)) hD2 hwz (fun i y Ha Hb s1 h => h) (fun H' s1 => tupS s1 w7) ?_ ?_
    · rintro i x Ha Hb Kk hi s6 ⟨rfl, ex⟩ kk
      obtain ⟨p, ap, ep, rfl, hp2⟩ := it7 i x ex
      have hlt := (inr p (List.mem_of_getElem? ep)).2
      have hlt' : p.2 < (flipIf (!same st) l.rw).length := by rw [length_flipIf]; exact hlt
      refine ⟨ap, _, rfl, tupS s6 hp2, rfl, _, _, rfl, _, _, rfl, rfl, rfl, ?_⟩
      refine ⟨_, rfl, _, rfl, rr, _, _, .int ((flipIf (!same st) l.rw).getD p.2 0), rfl, rfl, tupS s6 rr7, at_of (j := p.2) rfl ?_, kk _ _ (Same.refl _) ⟨p, ep, rfl⟩⟩
      rw [List.getElem?_map, getD_at hlt']; rfl
    intro H8 ws s8 e8 l8 r8
    have a8 := s8 _ _ a7
    refine ⟨_, rfl, a, D.level, dx, fs7, rfl, a8, T.levelC, T.lN "right", by omega, ?_⟩
    have k2 : D2 ≠ a := fun e => by rw [e, a7] at hD2; cases hD2
    have nD2 : H D2 = none := da_none sA7 hD2 k2
    have sA9 : Same (drp [a] H) (upd H8 a (.ins D.level dx (putF "right" (.ref D2) fs7))) := da_trans (sA7.trans s8) da_upd
    have a9 : (upd H8 a (.ins D.level dx (putF "right" (.ref D2) fs7))) a = some (.ins D.level dx (putF "right" (.ref D2) fs7)) := upd_same
    have d9 : (upd H8 a (.ins D.level dx (putF "right" (.ref D2) fs7))) D1 = some (.lst us) := by rw [upd_ne k1]; exact s8 _ _ d7
    have d9' : (upd H8 a (.ins D.level dx (putF "right" (.ref D2) fs7))) D2 = some (.lst ws) := by rw [upd_ne k2]; exact e8
    have len9 : (putF "right" (.ref D2) fs7).length ≤ 5 := len_putF len7
    change tSeq _ _ _ _ (upd H8 a (.ins D.level dx (putF "right" (.ref D2) fs7)))
    generalize upd H8 a (.ins D.level dx (putF "right" (.ref D2) fs7)) = H9 at sA9 a9 d9 d9' ⊢
    -- self.turned
    have lk9 : (putF "right" (.ref D2) fs7).lookup ("is_same" : Str) = some (.bl (same st)) := by rw [lk_ne (by decide)]; exact q4
    refine ⟨_, rfl, a, D.level, dx, _, .bl (same st), rfl, a9, T.levelC, T.lN "is_same", lk9, same st, rfl, small2, fun D3 hD3 => ?_⟩
    have k3 : a ≠ D3 := ne_of_none a9 hD3
    have nD3 : H D3 = none := da_none sA9 hD3 (Ne.symm k3)
    refine ⟨_, rfl, a, D.level, dx, _, rfl, by rw [upd_ne k3]; exact a9, T.levelC, T.lN "turned", by omega, ?_⟩
    have sA10 : Same (drp [a] H) (upd (upd H9 D3 (.lst [.bl false, .bl (!same st)])) a (.ins D.level dx (putF "turned" (.ref D3) (putF "right" (.ref D2) fs7)))) := da_trans (da_trans sA9 (da_new hD3)) da_upd
    have eus : us = (cols (same st) l).map fun c => V.int c.1 := by
      refine List.ext_getElem? fun i => ?_
      show _ = ((l.way.map fun p => ((l.lw.getD p.1 0, (flipIf (!same st) l.rw).getD p.2 0) : Int × Int)).map fun c => V.int c.1)[i]?
      rw [List.map_map, List.getElem?_map]
      cases q : us[i]? with
      | some y =>
        obtain ⟨c', q1, rfl⟩ := r6 i y q
        rw [q1]; rfl
      | none =>
        rw [List.getElem?_eq_none_iff] at q
        rw [List.getElem?_eq_none (by rw [l6, hlw] at q; exact q)]; rfl
    have ews : ws = (cols (same st) l).map fun c => V.int c.2 := by
      refine List.ext_getElem? fun i => ?_
      show _ = ((l.way.map fun p => ((l.lw.getD p.1 0, (flipIf (!same st) l.rw).getD p.2 0) : Int × Int)).map fun c => V.int c.2)[i]?
      rw [List.map_map, List.getElem?_map]
      cases q : ws[i]? with
      | some y =>
        obtain ⟨c', q1, rfl⟩ := r8 i y q
        rw [q1]; rfl
      | none =>
        rw [List.getElem?_eq_none_iff] at q
        rw [List.getElem?_eq_none (by rw [l8, hlw] at q; exact q)]; rfl
    have I10 : LvI D (upd (upd H9 D3 (.lst [.bl false, .bl (!same st)])) a (.ins D.level dx (putF "turned" (.ref D3) (putF "right" (.ref D2) fs7)))) a (.ref hp) (.ref wp) (same st) (cols (same st) l) false (!same st) 6 dx (putF "turned" (.ref D3) (putF "right" (.ref D2) fs7)) D1 D2 D3 := by
      refine ⟨upd_same, ?_, ?_, ?_, ?_, ?_, lk_eq, len_putF len9, ?_, ?_, ?_, (on7.put (by simp [levelF])).put (by simp [levelF])⟩
      · rw [lk_ne (by decide), lk_ne (by decide)]; exact q2
      · rw [lk_ne (by decide), lk_ne (by decide)]; exact q3
      · rw [lk_ne (by decide)]; exact lk9
      · rw [lk_ne (by decide), lk_ne (by decide)]; exact q1
      · rw [lk_ne (by decide), lk_eq]
      · rw [upd_ne k1, upd_ne (ne_of_none d9 hD3), d9, eus]
      · rw [upd_ne k2, upd_ne (ne_of_none d9' hD3), d9', ews]
      · rw [upd_ne (Ne.symm k3), upd_same]
    generalize upd (upd H9 D3 (.lst [.bl false, .bl (!same st)])) a (.ins D.level dx (putF "turned" (.ref D3) (putF "right" (.ref D2) fs7))) = H10 at sA10 I10 ⊢
    obtain ⟨sp, sxs, rfl, hs1, hs2⟩ := hs0.tuple
    have hls : sxs.length = st.length := by rw [hs2.length]; simp
    refine ⟨_, rfl, sp, rfl, ⟨_, tupS sA10 hs1⟩, ?_⟩
    refine for_it (walk_tup (K := K) (a := sp) (xs := sxs)) (fun i σ Hx => ∃ z fs pl pr pt, σ = [some (V.ref a), some (.ref sp), some (.ref hp), some (.ref wp), some (.ref tp), z, some (.ref la), some (.ref rr), none, none] ∧ Same (drp [a] H) Hx ∧ H pl = none ∧ H pr = none ∧ H pt = none ∧
      LvI D Hx a (.ref hp) (.ref wp) (same st) ((st.take i).foldl (fun c s => stepC s c) (cols (same st) l, false, !same st)).1 ((st.take i).foldl (fun c s => stepC s c) (cols (same st) l, false, !same st)).2.1 ((st.take i).foldl (fun c s => stepC s c) (cols (same st) l, false, !same st)).2.2 (6 + 3 * i) dx fs pl pr pt)
      ⟨none, _, D1, D2, D3, rfl, sA10, nD1, nD2, nD3, I10⟩ (fun i σ Hx _ ⟨_, _, _, _, _, _, h, _⟩ => tupS h hs1) ?_ ?_
    · rintro i x σ Hx Hy hi ⟨z, fs, pl, pr, pt, rfl, hS, n1, n2, n3, hI⟩ ⟨rfl, ex⟩
      obtain ⟨d, ed, hd⟩ := hs2.getV ex
      rw [List.getElem?_map] at ed
      obtain ⟨y, ey, rfl⟩ := Option.map_eq_some_iff.mp ed
      have hi2 : i < 3 := by omega
      have elen : ((st.take i).foldl (fun c s => stepC s c) (cols (same st) l, false, !same st)).1.length ≤ 100 := by
        have e0 := fold_split (st.take i) (cols (same st) l) (false, !same st)
        have e0' : (st.take i).foldl (fun c s => stepC s c) (cols (same st) l, false, !same st) = _ := e0
        rw [e0']
        simp [cols]; exact hw1
      refine ⟨_, rfl, a, dx, fs, rfl, hI.ins, ?_, _, rfl, ?_⟩
      · exact hI.only _ (by decide)
      refine ⟨a, x, _, _, _, y, _, _, _, 6 + 3 * i, dx, fs, pl, pr, pt, rfl, hd.mono hS, hI, by omega, elen, fun H' fs' pl' pr' pt' sH' c1 c2 c3 hI' => ?_⟩
      have e1 : st.take (i + 1) = st.take i ++ [y] := by
        rw [List.take_add_one, ey]; rfl
      have na : ∀ {q}, Hy q = none → q ≠ a := fun {q} e h => by rw [h, hI.ins] at e; cases e
      refine ⟨_, fs', pl', pr', pt', rfl, da_trans hS sH', ?_, ?_, ?_, ?_⟩
      · rcases c1 with rfl | rfl | c1
        · exact n1
        · exact n2
        · exact da_none hS c1 (na c1)
      · rcases c2 with rfl | rfl | c2
        · exact n1
        · exact n2
        · exact da_none hS c2 (na c2)
      · rcases c3 with rfl | c3
        · exact n3
        · exact da_none hS c3 (na c3)
      · rw [e1, List.foldl_append]
        exact hI'
    · rintro σ Hx ⟨z, fs, pl, pr, pt, rfl, hS, n1, n2, n3, hI⟩
      rw [hls, List.take_length] at hI
      refine k _ fs pl pr pt hS n1 n2 n3 ?_
      exact ⟨hI.ins, hI.halves, hI.way, hI.same, hI.left, hI.right, hI.turned, by have := hI.len; omega, hI.hl, hI.hr, hI.ht, hI.only⟩
end
end K6
set_option Elab.async false
set_option linter.all false
set_option maxRecDepth 100000
set_option maxHeartbeats 4000000
namespace K6
open PySem PySem.Spec PyProof.Rows L2
theorem LvI.mono {D : Ads} {H H' : Hp} {a : Addr} {hv wv : V} {b : Bool} {E : List (Int × Int)} {t1 t2 : Bool} {n : Nat} {dx : Addr} {fs : List (Str × V)} {pl pr pt : Addr} (s : Same H H') (h : LvI D H a hv wv b E t1 t2 n dx fs pl pr pt) : LvI D H' a hv wv b E t1 t2 n dx fs pl pr pt :=
  ⟨s _ _ h.ins, h.halves, h.way, h.same, h.left, h.right, h.turned, h.len, s _ _ h.hl, s _ _ h.hr, s _ _ h.ht, h.only⟩
/-- a level that stands -/
def LevAt (K : PySem.W.Frag) (D : Ads) (H : Hp) (v : V) (lv : Lvl) : Prop := ∃ (a : Addr) (hv wv : V) (n : Nat) (dx : Addr) (fs : List (Str × V)) (pl pr pt : Addr), v = .ref a ∧
  LvI D H a hv wv (same lv.1) (finCols lv) (trn lv.1 false) (trn lv.1 true) n dx fs pl pr pt ∧ Dp K H hv (halvesD lv.2) ∧ Dp K H wv (wayD lv.2.way)
theorem LevAt.mono {K : PySem.W.Frag} {D : Ads} {H H' : Hp} {v : V} {lv : Lvl} (s : Same H H') (h : LevAt K D H v lv) : LevAt K D H' v lv := by
  obtain ⟨a, hv, wv, n, dx, fs, pl, pr, pt, rfl, hI, h1, h2⟩ := h
  exact ⟨a, hv, wv, n, dx, fs, pl, pr, pt, rfl, hI.mono s, h1.mono s, h2.mono s⟩
theorem finC_lv (st : List Stp) (l : Lev) : finC st (cols (same st) l) = (finCols (st, l), trn st false, trn st true) := fold_split st (cols (same st) l) (false, !same st)
/-- as __init__ leaves it -/
theorem LevAt.of {K : PySem.W.Frag} {D : Ads} {H : Hp} {a : Addr} {hv wv : V} {st : List Stp} {l : Lev} {n : Nat} {dx : Addr} {fs : List (Str × V)} {pl pr pt : Addr}
    (h : LvI D H a hv wv (same st) (finC st (cols (same st) l)).1 (finC st (cols (same st) l)).2.1 (finC st (cols (same st) l)).2.2 n dx fs pl pr pt) (h1 : Dp K H hv (halvesD l)) (h2 : Dp K H wv (wayD l.way)) : LevAt K D H (.ref a) (st, l) := by
  rw [finC_lv] at h
  exact ⟨a, hv, wv, n, dx, fs, pl, pr, pt, rfl, h, h1, h2⟩
theorem inV_ints (x : Int) (l : List Int) : inV (.int x) (l.map V.int) = decide (x ∈ l) := by
  induction l with
  | nil => simp [inV]
  | cons a l ih =>
    have e : inV (.int x) ((a :: l).map V.int) = (eqV (.int a) (.int x) || inV (.int x) (l.map V.int)) := rfl
    rw [e, ih]
    have e2 : eqV (.int a) (.int x) = decide (a = x) := by
      show (a == x) = _
      exact beq_dec a x
    rw [e2]
    by_cases h1 : a = x
    · subst h1; simp
    · have h1' : x ≠ a := fun e => h1 e.symm
      simp [h1, h1']
theorem flat_ints (l : List Int) : (l.map V.int).all flatV = true := by simp [flatV]
theorem flat_cols (l : List (Int × Int)) (f : Int × Int → Int) : (l.map fun c => V.int (f c)).all flatV = true := by simp [flatV]
section
variable {P : Program} {w : World} {K : PySem.W.Frag} {mg : Str → Option Value} {base : Heap} {D : Ads}
def spLevelHalf (K : PySem.W.Frag) (D : Ads) : Sp := fun vs H Q _ => ∃ (v : V) (s : Bool) (lv : Lvl), vs = [v, .int (if s then 1 else 0)] ∧ LevAt K D H v lv ∧ RetD K H Q (wD (halfW lv s))
theorem ok_levelHalf (T : Txt K mg D) : FnOk P w K mg base CX0 1 (D.d 342).f (D.d 342).fd ["self", "side"] (spLevelHalf K D) := by
  refine T.w342.F.ok scLevelHalf (fun vs H Q E h => ?_) (fun cdv A outer s H vs Q E hr h => ?_)
  · obtain ⟨a, _, _, rfl, _⟩ := h
    rfl
  · obtain ⟨v, s, lv, rfl, ⟨a, hv, wv, n, dx, fs, pl, pr, pt, rfl, hI, hh, hw⟩, k⟩ := h
    refine ⟨_, (pss_cons (ps_set (i := 2) scLevelHalf.nd rfl (by first | exact Or.inl rfl | exact Or.inr rfl) (pe_ifExp (pt_cmpR op_eq (pv 1) pe_int (nomark _)) (pe_fld (pv 0) (by rfl)) (pe_fld (pv 0) (by rfl))))
      (pss_one (ps_ret (pe_callTy call_tuple_of (by rfl) T.tuple boot_tuple (pa_cons (pe_ifExp (pt_val (pe_ix ix_list (pe_fld (pv 0) (by rfl)) (pv 1) (fun _ _ => rfl))) (pe_revL (pv 2)) (pv 2)) pa_nil))))), ?_⟩
    cases s with
    | false =>
      have e : ((finCols lv).map fun c => V.int (prj false c)) = ((finCols lv).map (prj false)).map V.int := by rw [List.map_map]; rfl
      have hp : H pl = some (.lst (((finCols lv).map (prj false)).map V.int)) := by rw [← e]; exact hI.hl
      refine ⟨_, rfl, rfl, true, rfl, iteT ⟨_, rfl, a, D.level, dx, fs, .ref pl, rfl, hI.ins, T.levelC, T.lN "left", hI.left, ?_⟩⟩
      refine ⟨_, rfl, a, D.level, dx, fs, .ref pt, rfl, hI.ins, T.levelC, T.lN "turned", hI.turned, _, rfl, pt, _, _, .bl (trn lv.1 false), rfl, rfl, SqL.of hI.ht, at_of (j := 0) rfl rfl, trn lv.1 false, rfl, ?_⟩
      have kk : ∀ q H1, Same H H1 → H1 q = some (.tup ((halfW lv false).map V.int)) → Q (.ref q) H1 := fun q H1 s1 e1 => k _ _ s1 (dp_w (SqT.of e1))
      unfold halfW at kk
      cases ht : trn lv.1 false with
      | true =>
        rw [ht] at kk
        refine iteT ⟨_, rfl, pl, _, rfl, SqL.of hp, fun q hq => ?_⟩
        refine ⟨q, _, rfl, .inl ⟨SqL.of upd_same, fun r hr' => kk r _ ((same_new hq).trans (same_new hr')) ?_⟩⟩
        rw [upd_same]
        show some (HO.tup _) = some (HO.tup ((((finCols lv).map (prj false)).reverse).map V.int))
        rw [List.map_reverse]
      | false =>
        rw [ht] at kk
        refine iteF ⟨_, rfl, pl, _, rfl, .inl ⟨SqL.of hp, fun r hr' => kk r _ (same_new hr') upd_same⟩⟩
    | true =>
      have e : ((finCols lv).map fun c => V.int (prj true c)) = ((finCols lv).map (prj true)).map V.int := by rw [List.map_map]; rfl
      have hp : H pr = some (.lst (((finCols lv).map (prj true)).map V.int)) := by rw [← e]; exact hI.hr
      refine ⟨_, rfl, rfl, false, rfl, iteF ⟨_, rfl, a, D.level, dx, fs, .ref pr, rfl, hI.ins, T.levelC, T.lN "right", hI.right, ?_⟩⟩
      refine ⟨_, rfl, a, D.level, dx, fs, .ref pt, rfl, hI.ins, T.levelC, T.lN "turned", hI.turned, _, rfl, pt, _, _, .bl (trn lv.1 true), rfl, rfl, SqL.of hI.ht, at_of (j := 1) rfl rfl, trn lv.1 true, rfl, ?_⟩
      have kk : ∀ q H1, Same H H1 → H1 q = some (.tup ((halfW lv true).map V.int)) → Q (.ref q) H1 := fun q H1 s1 e1 => k _ _ s1 (dp_w (SqT.of e1))
      unfold halfW at kk
      cases ht : trn lv.1 true with
      | true =>
        rw [ht] at kk
        refine iteT ⟨_, rfl, pr, _, rfl, SqL.of hp, fun q hq => ?_⟩
        refine ⟨q, _, rfl, .inl ⟨SqL.of upd_same, fun r hr' => kk r _ ((same_new hq).trans (same_new hr')) ?_⟩⟩
        rw [upd_same]
        show some (HO.tup _) = some (HO.tup ((((finCols lv).map (prj true)).reverse).map V.int))
        rw [List.map_reverse]
      | false =>
        rw [ht] at kk
        refine iteF ⟨_, rfl, pr, _, rfl, .inl ⟨SqL.of hp, fun r hr' => kk r _ (same_new hr') upd_same⟩⟩
def spLevelIsBad (K : PySem.W.Frag) (D : Ads) : Sp := fun vs H Q _ => ∃ (v : V) (up : Bool) (lv : Lvl), vs = [v, .str (ordS up)] ∧ LevAt K D H v lv ∧ Ret H Q (.bl (decide (isBad lv up)))
theorem ok_levelIsBad (T : Txt K mg D) : FnOk P w K mg base CX0 1 (D.d 343).f (D.d 343).fd ["self", "order"] (spLevelIsBad K D) := by
  refine T.w343.F.ok scLevelIsBad (fun vs H Q E h => ?_) (fun cdv A outer s H vs Q E hr h => ?_)
  · obtain ⟨a, _, _, rfl, _⟩ := h
    rfl
  · obtain ⟨v, up, lv, rfl, ⟨a, hv, wv, n, dx, fs, pl, pr, pt, rfl, hI, hh, hw⟩, k⟩ := h
    refine ⟨_, (pss_cons (ps_asg (pe_ifExp (pt_cmpR op_eq (pv 1) pe_str (nomark _)) (pe_tup (pa_cons (pe_fld (pv 0) (by rfl)) (pa_cons (pe_fld (pv 0) (by rfl)) pa_nil))) (pe_tup (pa_cons (pe_fld (pv 0) (by rfl)) (pa_cons (pe_fld (pv 0) (by rfl)) pa_nil)))) (pg_tup (by rfl) (pgs_cons (pg_name (i := 2) scLevelIsBad.nd rfl (by first | exact Or.inl rfl | exact Or.inr rfl)) (pgs_cons (pg_name (i := 3) scLevelIsBad.nd rfl (by first | exact Or.inl rfl | exact Or.inr rfl)) pgs_nil))))
      (pss_one (ps_ret (pe_and (pe_cmpR op_in_seq pe_int (pv 2) (by rfl)) (pe_one (pe_cmpR op_in_seq pe_int (pv 3) (by rfl))))))), ?_⟩
    have i1 : ∀ l : List (Int × Int), ∀ x : Int, ∀ sd, inV (.int x) (l.map fun c => V.int (prj sd c)) = decide (x ∈ l.map (prj sd)) := fun l x sd => by
      have e : (l.map fun c => V.int (prj sd c)) = (l.map (prj sd)).map V.int := by rw [List.map_map]; rfl
      rw [e]; exact inV_ints x _
    have fin : ∀ c : Bool, c = decide (isBad lv up) → ∀ H1, Same H H1 → Q (.bl c) H1 := fun c e H1 s1 => by rw [e]; exact k _ s1
    cases up with
    | true =>
      refine ⟨_, rfl, rfl, true, by decide +kernel, iteT ?_⟩
      refine ⟨_, rfl, a, D.level, dx, fs, .ref pl, rfl, hI.ins, T.levelC, T.lN "left", hI.left, _, rfl, a, D.level, dx, fs, .ref pr, rfl, hI.ins, T.levelC, T.lN "right", hI.right, small2, fun q hq => ?_⟩
      have s1 : Same H (upd H q (.tup [.ref pl, .ref pr])) := same_new hq
      refine ⟨q, _, rfl, SqT.of upd_same, rfl, _, _, rfl, _, _, rfl, rfl, ?_⟩
      refine ⟨_, rfl, pl, _, rfl, .inl (SqL.of (s1 _ _ hI.hl)), rfl, flat_cols _ _, _, rfl, ?_⟩
      have e1 : (if false = true then !inV (.int 1) ((finCols lv).map fun c => V.int c.1) else inV (.int 1) ((finCols lv).map fun c => V.int c.1)) = decide ((1 : Int) ∈ (finCols lv).map (prj false)) := i1 (finCols lv) 1 false
      have e2 : inV (.int 0) ((finCols lv).map fun c => V.int c.2) = decide ((0 : Int) ∈ (finCols lv).map (prj true)) := i1 (finCols lv) 0 true
      rw [e1]
      by_cases h1 : (1 : Int) ∈ (finCols lv).map (prj false)
      · rw [decide_eq_true h1]
        refine iteT ⟨_, rfl, pr, _, rfl, .inl (SqL.of (s1 _ _ hI.hr)), rfl, flat_cols _ _, fin _ ?_ _ s1⟩
        refine e2.trans ?_
        unfold isBad
        exact decide_eq_decide.mpr ⟨fun h => ⟨h1, h⟩, fun h => h.2⟩
      · rw [decide_eq_false h1]
        refine iteF (fin _ ?_ _ s1)
        exact (decide_eq_false fun h => h1 h.1).symm
    | false =>
      refine ⟨_, rfl, rfl, false, by decide +kernel, iteF ?_⟩
      refine ⟨_, rfl, a, D.level, dx, fs, .ref pr, rfl, hI.ins, T.levelC, T.lN "right", hI.right, _, rfl, a, D.level, dx, fs, .ref pl, rfl, hI.ins, T.levelC, T.lN "left", hI.left, small2, fun q hq => ?_⟩
      have s1 : Same H (upd H q (.tup [.ref pr, .ref pl])) := same_new hq
      refine ⟨q, _, rfl, SqT.of upd_same, rfl, _, _, rfl, _, _, rfl, rfl, ?_⟩
      refine ⟨_, rfl, pr, _, rfl, .inl (SqL.of (s1 _ _ hI.hr)), rfl, flat_cols _ _, _, rfl, ?_⟩
      have e1 : (if false = true then !inV (.int 1) ((finCols lv).map fun c => V.int c.2) else inV (.int 1) ((finCols lv).map fun c => V.int c.2)) = decide ((1 : Int) ∈ (finCols lv).map (prj true)) := i1 (finCols lv) 1 true
      have e2 : inV (.int 0) ((finCols lv).map fun c => V.int c.1) = decide ((0 : Int) ∈ (finCols lv).map (prj false)) := i1 (finCols lv) 0 false
      rw [e1]
      by_cases h1 : (1 : Int) ∈ (finCols lv).map (prj true)
      · rw [decide_eq_true h1]
        refine iteT ⟨_, rfl, pl, _, rfl, .inl (SqL.of (s1 _ _ hI.hl)), rfl, flat_cols _ _, fin _ ?_ _ s1⟩
        refine e2.trans ?_
        unfold isBad
        exact decide_eq_decide.mpr ⟨fun h => ⟨h1, h⟩, fun h => h.2⟩
      · rw [decide_eq_false h1]
        refine iteF (fin _ ?_ _ s1)
        exact (decide_eq_false fun h => h1 h.1).symm
end
end K6
set_option Elab.async false
set_option linter.all false
set_option maxRecDepth 100000
set_option maxHeartbeats 4000000
namespace K6
open PySem PySem.Spec PyProof.Rows L2
abbrev prN (p : Nat × Nat) : PyData := .tuple [.int p.1, .int p.2]
theorem dp_pair {K : PySem.W.Frag} {H : Hp} {a : Addr} {i j : Nat} (h : SqT K H a [.int i, .int j]) : Dp K H (.ref a) (prN (i, j)) := .tup h (.cons (.int _) (.cons (.int _) .nil))
theorem wayD_snoc (p : List (Nat × Nat)) (c : Nat × Nat) : wayD (p ++ [c]) = .tuple (p.map prN ++ [prN c]) := by
  show PyData.tuple _ = _
  rw [List.map_append]; rfl
/-- the two lists of the search -/
structure OvS (K : PySem.W.Frag) (H : Hp) (pf pw : Addr) (F W : List (List (Nat × Nat))) (fxs wxs : List V) (Hx : Hp) : Prop where
  s : Same H Hx
  nf : H pf = none
  nw : H pw = none
  ne : pf ≠ pw
  hf : Hx pf = some (.lst fxs)
  hw : Hx pw = some (.lst wxs)
  df : DpAll K (own [pf, pw] H Hx) fxs (F.map wayD)
  dw : DpAll K (own [pf, pw] H Hx) wxs (W.map wayD)
section
variable {K : PySem.W.Frag} {H Hx Hy : Hp} {pf pw : Addr} {F W : List (List (Nat × Nat))} {fxs wxs : List V}
theorem OvS.grow (h : OvS K H pf pw F W fxs wxs Hx) (e : Same Hx Hy) : OvS K H pf pw F W fxs wxs Hy :=
  ⟨h.s.trans e, h.nf, h.nw, h.ne, e _ _ h.hf, e _ _ h.hw, h.df.mono (own_same e), h.dw.mono (own_same e)⟩
theorem OvS.lists (h : OvS K H pf pw F W fxs wxs Hx) : ∀ l ∈ [pf, pw], ∃ o, Hx l = some o ∧ isTup o = false := fun l hl => by
  rcases List.mem_cons.mp hl with q | q
  · rw [q]; exact ⟨_, h.hf, rfl⟩
  · rw [List.mem_singleton.mp q]; exact ⟨_, h.hw, rfl⟩
theorem OvS.pushW (h : OvS K H pf pw F W fxs wxs Hx) {v : V} {p : List (Nat × Nat)} (hv : Dp K Hx v (wayD p)) : OvS K H pf pw F (W ++ [p]) fxs (wxs ++ [v]) (upd Hx pw (.lst (wxs ++ [v]))) := by
  have e : own [pf, pw] H (upd Hx pw (.lst (wxs ++ [v]))) = own [pf, pw] H Hx := own_upd (by simp)
  refine ⟨same_upd_new h.s h.nw, h.nf, h.nw, h.ne, by rw [upd_ne h.ne]; exact h.hf, upd_same, by rw [e]; exact h.df, ?_⟩
  rw [e, List.map_append]
  exact h.dw.snoc (dp_own h.s h.lists (noL_way p) hv)
theorem OvS.pushF (h : OvS K H pf pw F W fxs wxs Hx) {v : V} {p : List (Nat × Nat)} (hv : Dp K Hx v (wayD p)) : OvS K H pf pw (F ++ [p]) W (fxs ++ [v]) wxs (upd Hx pf (.lst (fxs ++ [v]))) := by
  have e : own [pf, pw] H (upd Hx pf (.lst (fxs ++ [v]))) = own [pf, pw] H Hx := own_upd (by simp)
  refine ⟨same_upd_new h.s h.nf, h.nf, h.nw, h.ne, upd_same, by rw [upd_ne (Ne.symm h.ne)]; exact h.hw, ?_, by rw [e]; exact h.dw⟩
  rw [e, List.map_append]
  exact h.df.snoc (dp_own h.s h.lists (noL_way p) hv)
theorem OvS.pop (h : OvS K H pf pw F (W ++ [p]) fxs wxs Hx) : ∃ v, wxs[wxs.length - 1]? = some v ∧ Dp K Hx v (wayD p) ∧ OvS K H pf pw F W fxs wxs.dropLast (upd Hx pw (.lst wxs.dropLast)) := by
  have hl : wxs.length = W.length + 1 := by have := h.dw.length; simpa using this
  have e0 : ((W ++ [p]).map wayD)[wxs.length - 1]? = some (wayD p) := by
    rw [hl, List.map_append, Nat.add_sub_cancel, List.getElem?_append_right (by simp)]
    simp
  obtain ⟨v, e1, e2⟩ := h.dw.get e0
  have e : own [pf, pw] H (upd Hx pw (.lst wxs.dropLast)) = own [pf, pw] H Hx := own_upd (by simp)
  refine ⟨v, e1, e2.mono own_le, same_upd_new h.s h.nw, h.nf, h.nw, h.ne, by rw [upd_ne h.ne]; exact h.hf, upd_same, by rw [e]; exact h.df, ?_⟩
  rw [e]
  have := h.dw.dropLast
  rw [List.map_append] at this
  simpa using this
end
theorem dpAll_concat {K : PySem.W.Frag} {H : Hp} : ∀ {vs : List V} {ds : List PyData} {d : PyData}, DpAll K H vs (ds ++ [d]) → ∃ vs0 v, vs = vs0 ++ [v] ∧ DpAll K H vs0 ds ∧ Dp K H v d
  | _, [], d, h => by
    cases h with
    | cons h1 h2 => cases h2; exact ⟨[], _, rfl, .nil, h1⟩
  | _, e :: ds, d, h => by
    cases h with
    | cons h1 h2 =>
      obtain ⟨vs0, v, rfl, q1, q2⟩ := dpAll_concat h2
      exact ⟨_ :: vs0, v, rfl, .cons h1 q1, q2⟩
theorem OvS.child {K : PySem.W.Frag} {H Hx : Hp} {pf pw va : Addr} {F W : List (List (Nat × Nat))} {fxs wxs : List V} {p : List (Nat × Nat)} (c : Nat × Nat) (h : OvS K H pf pw F W fxs wxs Hx) (hv : Dp K (own [pf, pw] H Hx) (.ref va) (wayD p)) :
    ∃ vxs, SqT K Hx va vxs ∧ vxs.length = p.length ∧ ∀ q1 q2, Hx q1 = none → (upd Hx q1 (.tup [.int c.1, .int c.2])) q2 = none →
      (upd (upd Hx q1 (.tup [.int c.1, .int c.2])) q2 (.tup (vxs ++ [.ref q1]))) pw = some (.lst wxs) ∧
      OvS K H pf pw F (W ++ [p ++ [c]]) fxs (wxs ++ [.ref q2]) (upd (upd (upd Hx q1 (.tup [.int c.1, .int c.2])) q2 (.tup (vxs ++ [.ref q1]))) pw (.lst (wxs ++ [.ref q2]))) ∧
      Dp K (own [pf, pw] H (upd (upd (upd Hx q1 (.tup [.int c.1, .int c.2])) q2 (.tup (vxs ++ [.ref q1]))) pw (.lst (wxs ++ [.ref q2])))) (.ref va) (wayD p) := by
  obtain ⟨a, vxs, ea, h1, h2⟩ := (hv.mono own_le).tuple
  cases ea
  refine ⟨vxs, h1, by rw [h2.length]; simp, fun q1 q2 n1 n2 => ?_⟩
  have s1 := same_new (o := .tup [.int c.1, .int c.2]) n1
  have s2 := same_new (o := .tup (vxs ++ [.ref q1])) n2
  have g := (h.grow s1).grow s2
  refine ⟨g.hw, g.pushW (v := .ref q2) ?_, ?_⟩
  · rw [wayD_snoc]
    exact .tup (SqT.of upd_same) ((h2.mono (s1.trans s2)).snoc (dp_pair (SqT.of (s2 _ _ upd_same))))
  · rw [own_upd (by simp)]
    exact hv.mono (own_same (s1.trans s2))
section
variable {P : Program} {w : World} {K : PySem.W.Frag} {mg : Str → Option Value} {base : Heap} {D : Ads}
def spOverlays (K : PySem.W.Frag) : Sp := fun vs H Q _ => ∃ (la ra : Addr) (lw rw : List Int), vs = [.ref la, .ref ra] ∧ SqT K H la (lw.map V.int) ∧ SqT K H ra (rw.map V.int) ∧ 0 < lw.length ∧ 0 < rw.length ∧ lw.length + rw.length ≤ 5 ∧
  ∀ (H' : Hp) (v : V) (ws : List (List (Nat × Nat))), Same H H' → Lp K (fsh H H') v (ws.map wayD) → (∀ x, x ∈ ws ↔ WayFrom lw.length rw.length 0 0 x) → ws.length ≤ 64 → Q v H'
theorem ok_overlays (T : Txt K mg D) : FnOk P w K mg base CX0 1 (D.d 32).f (D.d 32).fd ["left", "right"] (spOverlays K) := by
  refine T.w32.F.ok scOverlays (fun vs H Q E h => ?_) (fun cdv A outer s H vs Q E hr h => ?_)
  · obtain ⟨a, _, _, _, rfl, _⟩ := h
    rfl
  · obtain ⟨la, ra, lw, rw', rfl, hL, hR, h0, h1, h8, k⟩ := h
    refine ⟨_, (pss_cons (ps_par (i := 2) (j := 3) (by rfl) scOverlays.nd rfl rfl (by decide) rfl rfl (pa_cons (pe_lst pa_nil) (pa_cons (pe_lst (pa_cons (pe_tup (pa_cons (pe_tup (pa_cons pe_int (pa_cons pe_int pa_nil))) pa_nil)) pa_nil)) pa_nil)) (by rfl))
      (pss_cons (ps_while PassesOwn.never (pt_cmpR (op_neNil hr.units0) (pv 3) (pe_lst pa_nil) (nomark _)) (pss_cons (ps_set (i := 4) scOverlays.nd rfl (by first | exact Or.inl rfl | exact Or.inr rfl) (pe_bm0 PySem.F.plainAttrs_list PySem.F.slot_list_pop PySem.F.type_list_pop mt_pop (pv 3)))
      (pss_cons (ps_asg (pe_ix ix_tup (pv 4) (pe_un un_neg pe_int) (fun _ _ => rfl)) (pg_tup (by rfl) (pgs_cons (pg_name (i := 5) scOverlays.nd rfl (by first | exact Or.inl rfl | exact Or.inr rfl)) (pgs_cons (pg_name (i := 6) scOverlays.nd rfl (by first | exact Or.inl rfl | exact Or.inr rfl)) pgs_nil))))
      (pss_cons (ps_if (PW.pt (pw_and (pt_cmpR op_eq (pv 5) (pe_op op_sub (pe_callB call_len_seq (by rfl) T.len boot_len (pa_cons (pv 0) pa_nil)) pe_int) (nomark _)) (pw_and1 (pt_cmpR op_eq (pv 6) (pe_op op_sub (pe_callB call_len_seq (by rfl) T.len boot_len (pa_cons (pv 1) pa_nil)) pe_int) (nomark _))))) (pss_one (ps_expr (pe_bm PySem.F.plainAttrs_list PySem.F.slot_list_append PySem.F.type_list_append mt_append (pv 2) (pa_cons (pv 4) pa_nil)))) pss_nil)
      (pss_cons (ps_if (pt_cmpR op_lt (pe_op op_add (pv 5) pe_int) (pe_callB call_len_seq (by rfl) T.len boot_len (pa_cons (pv 0) pa_nil)) (nomark _)) (pss_one (ps_expr (pe_bm PySem.F.plainAttrs_list PySem.F.slot_list_append PySem.F.type_list_append mt_append (pv 3) (pa_cons (pe_tup (StX.pa_star (pv 4) (pa_cons (pe_tup (pa_cons (pe_op op_add (pv 5) pe_int) (pa_cons (pv 6) pa_nil))) pa_nil))) pa_nil)))) pss_nil)
      (pss_cons (ps_if (pt_cmpR op_lt (pe_op op_add (pv 6) pe_int) (pe_callB call_len_seq (by rfl) T.len boot_len (pa_cons (pv 1) pa_nil)) (nomark _)) (pss_one (ps_expr (pe_bm PySem.F.plainAttrs_list PySem.F.slot_list_append PySem.F.type_list_append mt_append (pv 3) (pa_cons (pe_tup (StX.pa_star (pv 4) (pa_cons (pe_tup (pa_cons (pv 5) (pa_cons (pe_op op_add (pv 6) pe_int) pa_nil))) pa_nil))) pa_nil)))) pss_nil)
      (pss_one (ps_if (PW.pt (pw_and (pt_cmpR op_lt (pe_op op_add (pv 5) pe_int) (pe_callB call_len_seq (by rfl) T.len boot_len (pa_cons (pv 0) pa_nil)) (nomark _)) (pw_and1 (pt_cmpR op_lt (pe_op op_add (pv 6) pe_int) (pe_callB call_len_seq (by rfl) T.len boot_len (pa_cons (pv 1) pa_nil)) (nomark _))))) (pss_one (ps_expr (pe_bm PySem.F.plainAttrs_list PySem.F.slot_list_append PySem.F.type_list_append mt_append (pv 3) (pa_cons (pe_tup (StX.pa_star (pv 4) (pa_cons (pe_tup (pa_cons (pe_op op_add (pv 5) pe_int) (pa_cons (pe_op op_add (pv 6) pe_int) pa_nil))) pa_nil))) pa_nil)))) pss_nil))))))))
      (pss_one (ps_ret (pe_callB (cr_sortedD (enc := wayD) hr.units (fun b => ⟨_, rfl⟩)) (by rfl) T.sorted boot_sorted (pa_cons (pv 2) pa_nil)))))), ?_⟩
    -- found, waiting = [], [((0, 0),)]
    refine ⟨Nat.zero_le _, fun pf hpf => ⟨small2, fun c hc => ⟨by show 1 ≤ sizeLine; decide, fun d hd => ⟨by show 1 ≤ sizeLine; decide, fun pw hpw => ⟨_, _, rfl, ?_⟩⟩⟩⟩⟩
    have start : OvS K H pf pw [] [[(0, 0)]] [] [.ref d] (upd (upd (upd (upd H pf (.lst [])) c (.tup [.int 0, .int 0])) d (.tup [.ref c])) pw (.lst [.ref d])) := by
      have s0 : Same H (upd H pf (.lst [])) := same_new hpf
      have s1 := same_new (o := .tup [.int 0, .int 0]) hc
      have s2 := same_new (o := .tup [.ref c]) hd
      have s3 := same_new (o := .lst [.ref d]) hpw
      have nw : H pw = none := by
        cases q : H pw with
        | none => rfl
        | some u => rw [s2 _ _ (s1 _ _ (s0 _ _ q))] at hpw; cases hpw
      have f3 := s3 _ _ (s2 _ _ (s1 _ _ (upd_same (H := H) (a := pf) (o := HO.lst []))))
      have ne : pf ≠ pw := fun e => by rw [e, upd_same] at f3; cases f3
      have sA : Same H (upd (upd (upd (upd H pf (.lst [])) c (.tup [.int 0, .int 0])) d (.tup [.ref c])) pw (.lst [.ref d])) := ((s0.trans s1).trans s2).trans s3
      have hl : ∀ l ∈ [pf, pw], ∃ o, (upd (upd (upd (upd H pf (.lst [])) c (.tup [.int 0, .int 0])) d (.tup [.ref c])) pw (.lst [.ref d])) l = some o ∧ isTup o = false := fun l hl => by
        rcases List.mem_cons.mp hl with q | q
        · rw [q]; exact ⟨_, f3, rfl⟩
        · rw [List.mem_singleton.mp q]; exact ⟨_, upd_same, rfl⟩
      refine ⟨sA, hpf, nw, ne, f3, upd_same, .nil, .cons (dp_own sA hl (noL_way [(0, 0)]) ?_) .nil⟩
      exact .tup (SqT.of (s3 _ _ upd_same)) (.cons (dp_pair (i := 0) (j := 0) (SqT.of (s3 _ _ (s2 _ _ upd_same)))) .nil)
    generalize upd (upd (upd (upd H pf (.lst [])) c (.tup [.int 0, .int 0])) d (.tup [.ref c])) pw (.lst [.ref d]) = H1 at start ⊢
    refine ⟨fun m σ Hx => ∃ z1 z2 z3 F W fxs wxs, σ = [some (.ref la), some (.ref ra), some (.ref pf), some (.ref pw), z1, z2, z3] ∧ OvS K H pf pw F W fxs wxs Hx ∧ OvInv lw.length rw'.length F W ∧ m = wts lw.length rw'.length W, ⟨_, none, none, none, [], _, _, _, rfl, start, .start h0 h1, rfl⟩, ?_⟩
    rintro m σ Hx ⟨z1, z2, z3, F, W, fxs, wxs, rfl, hS, hV, rfl⟩
    have hsz := ov_size h0 h1 (show lw.length + rw'.length ≤ 8 by omega)
    have hFl : fxs.length = F.length := by have := hS.df.length; simpa using this
    have hWl : wxs.length = W.length := by have := hS.dw.length; simpa using this
    refine ⟨_, rfl, Nat.zero_le _, fun q hq => ?_⟩
    have hS1 := hS.grow (same_new (o := .lst []) hq)
    generalize hHq : upd Hx q (.lst []) = Hq at hS1 ⊢
    refine ⟨pw, q, wxs, rfl, rfl, hS1.hw, by rw [← hHq]; exact upd_same, _, rfl, ?_⟩
    rcases List.eq_nil_or_concat W with hW | ⟨W0, p, hW⟩
    · subst hW
      have ew : wxs = [] := List.eq_nil_of_length_eq_zero (by rw [hWl]; rfl)
      subst ew
      refine iteF ?_
      obtain ⟨r1, r2⟩ := hV.done
      refine ⟨_, rfl, pf, fxs, F, rfl, SqL.of hS1.hf, hS1.df.mono own_le, fun b hb => ?_, ?_, fun b _ => depth_way b, fun cs ys p hperm hys hp => ?_⟩
      · cases (r1 b).mp hb <;> exact ⟨_, _, rfl⟩
      · intro x hx y hy
        obtain ⟨x', _, rfl⟩ := List.mem_map.mp hx
        obtain ⟨y', _, rfl⟩ := List.mem_map.mp hy
        show PySem.W.alike (.tuple _) (.tuple _) = true
        rw [PySem.W.alike]
        exact alike_ways x' y'
      · have sp : Same Hq (upd Hq p (.lst ys)) := same_new hp
        have np : H p = none := by
          cases q : H p with
          | none => rfl
          | some u => rw [hS1.s _ _ q] at hp; cases hp
        refine k _ _ cs (hS1.s.trans sp) ⟨p, ys, rfl, by rw [fsh_none np]; exact upd_same, ?_⟩ (fun x => by rw [hperm.mem_iff]; exact r1 x) (by rw [hperm.length_eq]; exact Nat.le_trans r2 (ov_size5 h0 h1 h8))
        exact dpAll_fsh (hS1.s.trans sp) (noLs_map noL_way) (hys.mono sp)
    · rw [List.concat_eq_append] at hW
      subst hW
      have ne : wxs.isEmpty = false := by
        cases wxs with
        | nil => simp at hWl
        | cons _ _ => rfl
      rw [ne]
      refine iteT ?_
      obtain ⟨hp1, i, j, ep, hi, hj, hext⟩ := hV.p p (by simp)
      subst ep
      obtain ⟨_, _, hV2⟩ := hV.step
      refine ⟨fun σ' H' => ∃ z1 z2 z3 F2 W2 fxs wxs, σ' = [some (.ref la), some (.ref ra), some (.ref pf), some (.ref pw), z1, z2, z3] ∧ OvS K H pf pw F2 W2 fxs wxs H' ∧ OvInv lw.length rw'.length F2 W2 ∧ wts lw.length rw'.length W2 < wts lw.length rw'.length (W0 ++ [hp1 ++ [(i, j)]]), ?_, ?_⟩
      · rintro σ' H' ⟨z1, z2, z3, F2, W2, fxs, wxs, rfl, a1, a2, a3⟩
        exact ⟨_, a3, z1, z2, z3, F2, W2, fxs, wxs, rfl, a1, a2, rfl⟩
      have hW0 : W0.length ≤ 4096 := by
        have e1 := wts_len (m := lw.length) (n := rw'.length) (ps := W0) fun q hq => hV.p q (List.mem_append_left _ hq)
        have e2 := hV.size
        rw [wts_app] at e2
        omega
      have hF0 : F.length ≤ 4096 := by have e2 := hV.size; omega
      obtain ⟨v, ev, hv, hS2⟩ := hS1.pop
      refine ⟨_, rfl, .inl ⟨rfl, _, SqL.of hS1.hw⟩, pw, wxs, v, rfl, rfl, hS1.hw, ev, ?_⟩
      have hv2 : Dp K (upd Hq pw (.lst wxs.dropLast)) v (wayD (hp1 ++ [(i, j)])) := (dp_own hS1.s hS1.lists (noL_way _) hv).mono (by
        have e : own [pf, pw] H (upd Hq pw (.lst wxs.dropLast)) = own [pf, pw] H Hq := own_upd (by simp)
        rw [← e]
        exact own_le)
      have hv3 : Dp K (own [pf, pw] H (upd Hq pw (.lst wxs.dropLast))) v (wayD (hp1 ++ [(i, j)])) := by
        have e : own [pf, pw] H (upd Hq pw (.lst wxs.dropLast)) = own [pf, pw] H Hq := own_upd (by simp)
        rw [e]
        exact dp_own hS1.s hS1.lists (noL_way _) hv
      generalize upd Hq pw (.lst wxs.dropLast) = H2 at hS2 hv2 hv3 ⊢
      have l2 : wxs.dropLast.length ≤ 4096 := by rw [List.length_dropLast, hWl]; simp; exact hW0
      generalize wxs.dropLast = wxs2 at hS2 l2 ⊢
      have plen : (hp1 ++ [(i, j)]).length ≤ 8 := Nat.le_trans (pre_len hi hj hext) (by omega)
      obtain ⟨va, vxs, rfl, hva, hvx⟩ := hv2.tuple
      rw [List.map_append] at hvx
      obtain ⟨vx0, vl, evx, _, hl⟩ := dpAll_concat hvx
      subst evx
      obtain ⟨lp, lxs, rfl, hlp, hlx⟩ := hl.tuple
      have elx : lxs = [.int i, .int j] := by
        cases hlx with
        | cons k0 hlx =>
          cases hlx with
          | cons k1 hlx => cases hlx; cases k0; cases k1; rfl
      subst elx
      have big : ∀ {n : Nat}, n ≤ 4096 → n < sizeLine := fun {n} h => Nat.lt_of_le_of_lt h (by decide)
      have cvt1 : ∀ (b : Bool), (b = decide (i + 1 = lw.length)) → V.bl (decide (V.int (i : Int) = V.int (((lw.map V.int).length : Int) - 1))) = V.bl b := fun b e => by
        rw [e]; refine congrArg V.bl (decide_eq_decide.mpr ⟨fun h => ?_, fun h => congrArg V.int ?_⟩)
        · injection h with h; rw [List.length_map] at h; omega
        · rw [List.length_map]; omega
      have cvt2 : ∀ (b : Bool), (b = decide (j + 1 = rw'.length)) → V.bl (decide (V.int (j : Int) = V.int (((rw'.map V.int).length : Int) - 1))) = V.bl b := fun b e => by
        rw [e]; refine congrArg V.bl (decide_eq_decide.mpr ⟨fun h => ?_, fun h => congrArg V.int ?_⟩)
        · injection h with h; rw [List.length_map] at h; omega
        · rw [List.length_map]; omega
      have clt1 : ∀ (b : Bool), (b = decide (i + 1 < lw.length)) → V.bl (decide ((i : Int) + 1 < ((lw.map V.int).length : Int))) = V.bl b := fun b e => by
        rw [e]; exact congrArg V.bl (decide_eq_decide.mpr (by rw [List.length_map]; omega))
      have clt2 : ∀ (b : Bool), (b = decide (j + 1 < rw'.length)) → V.bl (decide ((j : Int) + 1 < ((rw'.map V.int).length : Int))) = V.bl b := fun b e => by
        rw [e]; exact congrArg V.bl (decide_eq_decide.mpr (by rw [List.length_map]; omega))
      refine ⟨_, rfl, 1, rfl, va, _, _, .ref lp, rfl, rfl, hva, atI_last _ _, lp, _, rfl, hlp, rfl, _, _, rfl, _, _, rfl, rfl, ?_⟩
      have upL : ∀ {Hy F2 W2 fx wx}, OvS K H pf pw F2 W2 fx wx Hy → SqT K Hy la (lw.map V.int) ∧ SqT K Hy ra (rw'.map V.int) := fun h => ⟨tupS h.s hL, tupS h.s hR⟩
      obtain ⟨L2, R2⟩ := upL hS2
      have dec := wts_step (m := lw.length) (n := rw'.length) (ws := W0) (q := hp1) hi hj
      by_cases hfin : i + 1 = lw.length ∧ j + 1 = rw'.length
      · -- a whole way
        refine ⟨_, rfl, _, rfl, _, _, rfl, .inr L2, _, _, rfl, rfl, rfl, true, cvt1 true (decide_eq_true hfin.1).symm, iteT ?_⟩
        refine ⟨_, rfl, _, rfl, _, _, rfl, .inr R2, _, _, rfl, rfl, rfl, true, cvt2 true (decide_eq_true hfin.2).symm, iteT ?_⟩
        have hS3 := hS2.pushF hv2
        refine ⟨_, rfl, .inl ⟨rfl, _, SqL.of hS2.hf⟩, _, rfl, pf, fxs, _, rfl, rfl, hS2.hf, big (by rw [hFl]; exact hF0), ?_⟩
        generalize upd H2 pf (.lst (fxs ++ [.ref va])) = H3 at hS3 ⊢
        obtain ⟨L3, R3⟩ := upL hS3
        refine ⟨_, rfl, _, _, rfl, rfl, _, rfl, _, _, rfl, .inr L3, _, _, rfl, rfl, false, clt1 false (decide_eq_false (by omega)).symm, iteF ?_⟩
        refine ⟨_, rfl, _, _, rfl, rfl, _, rfl, _, _, rfl, .inr R3, _, _, rfl, rfl, false, clt2 false (decide_eq_false (by omega)).symm, iteF ?_⟩
        refine ⟨_, rfl, _, _, rfl, rfl, _, rfl, _, _, rfl, .inr L3, _, _, rfl, rfl, false, clt1 false (decide_eq_false (by omega)).symm, iteF (iteF ?_)⟩
        rw [if_pos hfin] at hV2
        have ek : kids lw.length rw'.length i j (hp1 ++ [(i, j)]) = [] := by unfold kids; rw [if_neg (by omega), if_neg (by omega), if_neg (by omega)]; rfl
        rw [ek, List.append_nil] at hV2 dec
        exact ⟨_, _, _, _, W0, _, _, rfl, hS3, hV2, dec⟩
      · have skip : ∀ {G : Prop}, G → G := fun g => g
        rw [if_neg hfin, List.append_nil] at hV2
        have pl1 : ∀ {vxs : List V} {q : Addr}, vxs.length = (hp1 ++ [(i, j)]).length → (vxs ++ [V.ref q]).length ≤ sizeLine := fun {vxs q} e => by
          rw [List.length_append, e]
          exact Nat.le_trans (Nat.add_le_add_right plen _) (by show 8 + 1 ≤ sizeLine; decide)
        by_cases g1 : i + 1 = lw.length
        · have g2 : ¬ j + 1 = rw'.length := fun e => hfin ⟨g1, e⟩
          refine ⟨_, rfl, _, rfl, _, _, rfl, .inr L2, _, _, rfl, rfl, rfl, true, cvt1 true (decide_eq_true g1).symm, iteT ?_⟩
          refine ⟨_, rfl, _, rfl, _, _, rfl, .inr R2, _, _, rfl, rfl, rfl, false, cvt2 false (decide_eq_false g2).symm, iteF ?_⟩
          -- down alone
          refine ⟨_, rfl, _, _, rfl, rfl, _, rfl, _, _, rfl, .inr L2, _, _, rfl, rfl, false, clt1 false (decide_eq_false (by omega)).symm, iteF ?_⟩
          refine ⟨_, rfl, _, _, rfl, rfl, _, rfl, _, _, rfl, .inr R2, _, _, rfl, rfl, true, clt2 true (decide_eq_true (by omega)).symm, iteT ?_⟩
          obtain ⟨vx1, ha1, hn1, ch⟩ := hS2.child (i, j + 1) hv3
          refine ⟨_, rfl, .inl ⟨rfl, _, SqL.of hS2.hw⟩, _, rfl, va, vx1, rfl, .inl ha1, _, rfl, _, rfl, _, _, rfl, rfl, small2, fun q1 hq1 => ⟨pl1 hn1, fun q2 hq2 => ?_⟩⟩
          obtain ⟨ch1, hS3, hv4⟩ := ch q1 q2 hq1 hq2
          refine ⟨pw, _, _, rfl, rfl, ch1, big l2, ?_⟩
          obtain ⟨L3, R3⟩ := upL hS3
          refine ⟨_, rfl, _, _, rfl, rfl, _, rfl, _, _, rfl, .inr L3, _, _, rfl, rfl, false, clt1 false (decide_eq_false (by omega)).symm, iteF (iteF ?_)⟩
          have ek : kids lw.length rw'.length i j (hp1 ++ [(i, j)]) = [hp1 ++ [(i, j)] ++ [(i, j + 1)]] := by unfold kids; rw [if_neg (by omega), if_pos (by omega), if_neg (by omega)]; rfl
          rw [ek] at hV2 dec
          exact ⟨_, _, _, F, _, _, _, rfl, hS3, hV2, dec⟩
        · refine ⟨_, rfl, _, rfl, _, _, rfl, .inr L2, _, _, rfl, rfl, rfl, false, cvt1 false (decide_eq_false g1).symm, iteF (iteF ?_)⟩
          -- right
          refine ⟨_, rfl, _, _, rfl, rfl, _, rfl, _, _, rfl, .inr L2, _, _, rfl, rfl, true, clt1 true (decide_eq_true (by omega)).symm, iteT ?_⟩
          obtain ⟨vx1, ha1, hn1, ch⟩ := hS2.child (i + 1, j) hv3
          refine ⟨_, rfl, .inl ⟨rfl, _, SqL.of hS2.hw⟩, _, rfl, va, vx1, rfl, .inl ha1, _, rfl, _, _, rfl, rfl, _, rfl, small2, fun q1 hq1 => ⟨pl1 hn1, fun q2 hq2 => ?_⟩⟩
          obtain ⟨ch1, hS3, hv4⟩ := ch q1 q2 hq1 hq2
          refine ⟨pw, _, _, rfl, rfl, ch1, big l2, ?_⟩
          obtain ⟨L3, R3⟩ := upL hS3
          have l3 : (wxs2 ++ [V.ref q2]).length ≤ 4097 := by rw [List.length_append]; exact Nat.add_le_add_right l2 1
          by_cases g2 : j + 1 < rw'.length
          · refine ⟨_, rfl, _, _, rfl, rfl, _, rfl, _, _, rfl, .inr R3, _, _, rfl, rfl, true, clt2 true (decide_eq_true g2).symm, iteT ?_⟩
            obtain ⟨vx2, ha2, hn2, ch'⟩ := hS3.child (i, j + 1) hv4
            refine ⟨_, rfl, .inl ⟨rfl, _, SqL.of hS3.hw⟩, _, rfl, va, vx2, rfl, .inl ha2, _, rfl, _, rfl, _, _, rfl, rfl, small2, fun q3 hq3 => ⟨pl1 hn2, fun q4 hq4 => ?_⟩⟩
            obtain ⟨ch2, hS4, hv5⟩ := ch' q3 q4 hq3 hq4
            refine ⟨pw, _, _, rfl, rfl, ch2, Nat.lt_of_le_of_lt l3 (by decide), ?_⟩
            obtain ⟨L4, R4⟩ := upL hS4
            have l4 : (wxs2 ++ [V.ref q2] ++ [V.ref q4]).length ≤ 4098 := by rw [List.length_append]; exact Nat.add_le_add_right l3 1
            refine ⟨_, rfl, _, _, rfl, rfl, _, rfl, _, _, rfl, .inr L4, _, _, rfl, rfl, true, clt1 true (decide_eq_true (by omega)).symm, iteT ?_⟩
            refine ⟨_, rfl, _, _, rfl, rfl, _, rfl, _, _, rfl, .inr R4, _, _, rfl, rfl, true, clt2 true (decide_eq_true g2).symm, iteT ?_⟩
            obtain ⟨vx3, ha3, hn3, ch''⟩ := hS4.child (i + 1, j + 1) hv5
            refine ⟨_, rfl, .inl ⟨rfl, _, SqL.of hS4.hw⟩, _, rfl, va, vx3, rfl, .inl ha3, _, rfl, _, _, rfl, rfl, _, rfl, _, _, rfl, rfl, small2, fun q5 hq5 => ⟨pl1 hn3, fun q6 hq6 => ?_⟩⟩
            obtain ⟨ch3, hS5, hv6⟩ := ch'' q5 q6 hq5 hq6
            refine ⟨pw, _, _, rfl, rfl, ch3, Nat.lt_of_le_of_lt l4 (by decide), ?_⟩
            have ek : kids lw.length rw'.length i j (hp1 ++ [(i, j)]) = [hp1 ++ [(i, j)] ++ [(i + 1, j)], hp1 ++ [(i, j)] ++ [(i, j + 1)], hp1 ++ [(i, j)] ++ [(i + 1, j + 1)]] := by unfold kids; rw [if_pos (by omega), if_pos (by omega), if_pos (by omega)]; rfl
            rw [ek] at hV2 dec
            refine ⟨_, _, _, F, _, _, _, rfl, hS5, ?_, ?_⟩
            · rw [List.append_assoc, List.append_assoc]; exact hV2
            · rw [List.append_assoc, List.append_assoc]; exact dec
          · refine ⟨_, rfl, _, _, rfl, rfl, _, rfl, _, _, rfl, .inr R3, _, _, rfl, rfl, false, clt2 false (decide_eq_false g2).symm, iteF ?_⟩
            refine ⟨_, rfl, _, _, rfl, rfl, _, rfl, _, _, rfl, .inr L3, _, _, rfl, rfl, true, clt1 true (decide_eq_true (by omega)).symm, iteT ?_⟩
            refine ⟨_, rfl, _, _, rfl, rfl, _, rfl, _, _, rfl, .inr R3, _, _, rfl, rfl, false, clt2 false (decide_eq_false g2).symm, iteF ?_⟩
            have ek : kids lw.length rw'.length i j (hp1 ++ [(i, j)]) = [hp1 ++ [(i, j)] ++ [(i + 1, j)]] := by unfold kids; rw [if_pos (by omega), if_neg (by omega), if_neg (by omega)]; rfl
            rw [ek] at hV2 dec
            exact ⟨_, _, _, F, _, _, _, rfl, hS3, hV2, dec⟩
end
end K6
set_option Elab.async false
set_option linter.all false
set_option maxRecDepth 100000
set_option maxHeartbeats 4000000
namespace K6
open PySem PySem.Spec PyProof.Rows L2
abbrev Spl := List Int × List Int × Bool
abbrev splD (x : Spl) : PyData := .tuple [wD x.1, wD x.2.1, .bool x.2.2]
theorem noL_spl (x : Spl) : noL (splD x) = true := by
  show noL (.tuple [wD x.1, wD x.2.1, .bool x.2.2]) = true
  rw [noL, noLs, noLs, noLs, noLs, noL_w, noL_w, noL]; rfl
def splitsL (w : List Int) : List Spl := (List.range w.length).map (fun p => (w.take (p + 1), w.drop p, true)) ++ (List.range (w.length - 1)).map fun p => (w.take (p + 1), w.drop (p + 1), false)
theorem mem_splitsL {w : List Int} {x : Spl} : x ∈ splitsL w ↔ IsSplit w x.1 x.2.1 x.2.2 := by
  obtain ⟨a, b, c⟩ := x
  unfold splitsL IsSplit
  constructor
  · intro h
    rcases List.mem_append.mp h with h | h
    · obtain ⟨p, hp, e⟩ := List.mem_map.mp h
      cases e
      exact .inl ⟨rfl, p, List.mem_range.mp hp, rfl, rfl⟩
    · obtain ⟨p, hp, e⟩ := List.mem_map.mp h
      cases e
      exact .inr ⟨rfl, p + 1, by omega, by have := List.mem_range.mp hp; omega, rfl, rfl⟩
  · rintro (⟨e, p, hp, e1, e2⟩ | ⟨e, p, h1, hp, e1, e2⟩)
    · simp only at e e1 e2
      subst e e1 e2
      exact List.mem_append_left _ (List.mem_map.mpr ⟨p, List.mem_range.mpr hp, rfl⟩)
    · simp only at e e1 e2
      subst e e1 e2
      obtain ⟨q, rfl⟩ : ∃ q, p = q + 1 := ⟨p - 1, by omega⟩
      exact List.mem_append_right _ (List.mem_map.mpr ⟨q, List.mem_range.mpr (by omega), rfl⟩)
theorem splitsL_len (w : List Int) : (splitsL w).length ≤ 2 * w.length := by simp [splitsL]; omega
theorem dp_spl {K : PySem.W.Frag} {H : Hp} {a la ra : Addr} {x : Spl} (h : SqT K H a [.ref la, .ref ra, .bl x.2.2]) (h1 : SqT K H la (x.1.map V.int)) (h2 : SqT K H ra (x.2.1.map V.int)) : Dp K H (.ref a) (splD x) :=
  .tup h (.cons (dp_w h1) (.cons (dp_w h2) (.cons (.bl _) .nil)))
theorem dpAll_of {K : PySem.W.Frag} {H : Hp} : ∀ {vs : List V} {ds : List PyData}, vs.length = ds.length → (∀ (i : Nat) v d, vs[i]? = some v → ds[i]? = some d → Dp K H v d) → DpAll K H vs ds
  | [], [], _, _ => .nil
  | [], _ :: _, h, _ => by simp at h
  | _ :: _, [], h, _ => by simp at h
  | v :: vs, d :: ds, h, k => .cons (k 0 v d rfl rfl) (dpAll_of (by simpa using h) fun i w e h1 h2 => k (i + 1) w e (by simpa using h1) (by simpa using h2))
theorem no_part {σ : L2.St} {H : Hp} {Q : Option Int → Hp → Prop} (h : Q none H) : tNoPart σ H Q := h
theorem small3 : 3 ≤ sizeLine := by decide
section
variable {P : Program} {w : World} {K : PySem.W.Frag} {mg : Str → Option Value} {base : Heap} {D : Ads}
def spSplits (K : PySem.W.Frag) : Sp := fun vs H Q _ => ∃ (a : Addr) (wd : List Int), vs = [.ref a] ∧ SqT K H a (wd.map V.int) ∧ 0 < wd.length ∧ wd.length ≤ 4 ∧ RetN K H Q ((splitsL wd).map splD)
theorem ok_splits (T : Txt K mg D) : FnOk P w K mg base CX0 1 (D.d 33).f (D.d 33).fd ["word"] (spSplits K) := by
  refine T.w33.F.ok scSplits (fun vs H Q E h => ?_) (fun cdv A outer s H vs Q E hr h => ?_)
  · obtain ⟨a, _, rfl, _⟩ := h
    rfl
  · obtain ⟨a, wd, rfl, hW, h0, h4, k⟩ := h
    refine ⟨_, (pss_cons (ps_setLc (i := 1) (own := [("place", 2)]) (by rfl) scSplits.nd rfl rfl (sw_true rfl rfl rfl (by decide +kernel)) (pi_range1 (by rfl) T.range (pa_cons (pe_callB call_len_seq (by rfl) T.len boot_len (pa_cons (pv 0) pa_nil)) pa_nil)) (blkOk_by (own := [("place", 2)]) (N := ["word", "rows", "place"]) (sc := defScope sSplits) (by decide +kernel)) (fun _ _ _ _ _ => (pg_name (i := 2) scSplits.nd rfl (by first | exact Or.inl rfl | exact Or.inr rfl))) (fun _ _ _ _ _ => pts_nil) (fun _ _ _ _ _ => (pe_tup (pa_cons (pe_slice (sl_tupAK K (by rfl)) (pv 0) po_none (po_some (pe_op op_add (pv 2) pe_int))) (pa_cons (pe_slice (sl_tupAK K (by rfl)) (pv 0) (po_some (pv 2)) po_none) (pa_cons pe_bl pa_nil))))))
      (pss_one (ps_ret (pe_lst (StX.pa_star (pv 1) (StX.pa_star (pe_lc (own := [("place", 2)]) (by rfl) scSplits.nd (pi_range2 (by rfl) T.range (pa_cons pe_int (pa_cons (pe_callB call_len_seq (by rfl) T.len boot_len (pa_cons (pv 0) pa_nil)) pa_nil))) (blkOk_by (own := [("place", 2)]) (N := ["word", "rows", "place"]) (sc := defScope sSplits) (by decide +kernel)) (fun _ _ _ _ _ => (pg_name (i := 2) scSplits.nd rfl (by first | exact Or.inl rfl | exact Or.inr rfl))) (fun _ _ _ _ _ => pts_nil) (fun _ _ _ _ _ => (pe_tup (pa_cons (pe_slice (sl_tupAK K (by rfl)) (pv 0) po_none (po_some (pv 2))) (pa_cons (pe_slice (sl_tupAK K (by rfl)) (pv 0) (po_some (pv 2)) po_none) (pa_cons pe_bl pa_nil)))))) pa_nil)))))), ?_⟩
    have wl : (wd.map V.int).length = wd.length := List.length_map _
    refine ⟨_, rfl, _, _, rfl, .inr hW, (wd.length : Int), by rw [wl], by omega, by omega, fun D1 hD1 => ?_⟩
    rw [Int.toNat_natCast]
    have wz : wd.length ≤ sizeLine := Nat.le_trans h4 (by decide)
    refine lc_map (walk_range (lo := 0) (n := wd.length)) (fun i y Hx => Dp K Hx y (splD (wd.take (i + 1), wd.drop i, true))) hD1 wz (fun i y Ha Hb s1 h => h.mono s1) (fun H' s1 => trivial) ?_ ?_
    · rintro i x Ha Hb Kk hi s1 ⟨rfl, rfl⟩ kk
      refine ⟨rfl, _, rfl, _, rfl, _, _, rfl, rfl, _, rfl, ?_⟩
      refine slA_of (tupS s1 hW) ((cut_take (i + 1) (by omega)).trans (List.map_take ..).symm) fun p1 H1 s2 h1 => ?_
      refine ⟨_, rfl, _, rfl, _, rfl, ?_⟩
      refine no_part ?_
      refine slA_of (tupS (s1.trans s2) hW) ((cut_drop (v := 0 + (i : Int)) i (by omega)).trans (List.map_drop ..).symm) fun p2 H2 s3 h2 => ?_
      refine ⟨small3, fun q hq => ?_⟩
      have s4 := same_new (o := .tup [.ref p1, .ref p2, .bl true]) hq
      have d := dp_spl (x := (wd.take (i + 1), wd.drop i, true)) (SqT.of upd_same) (tupS (s3.trans s4) h1) (tupS s4 h2)
      exact kk _ _ ((s2.trans s3).trans s4) (dp_fsh ((s2.trans s3).trans s4) (noL_spl _) d)
    intro H1 us s1 e1 l1 r1
    refine ⟨_, rfl, D1, us, rfl, .inr (SqL.of e1), ?_⟩
    refine ⟨_, rfl, _, _, rfl, .inr (tupS s1 hW), 1, (wd.length : Int), by rw [wl], by omega, fun D2 hD2 => ?_⟩
    have en : ((wd.length : Int) - 1).toNat = wd.length - 1 := by omega
    rw [en]
    refine lc_map (walk_range (lo := 1) (n := wd.length - 1)) (fun i y Hx => Dp K Hx y (splD (wd.take (i + 1), wd.drop (i + 1), false))) hD2 (by omega) (fun i y Ha Hb s1 h => h.mono s1) (fun H' s1 => trivial) ?_ ?_
    · rintro i x Ha Hb Kk hi s2 ⟨rfl, rfl⟩ kk
      have sA := s1.trans s2
      refine ⟨rfl, _, rfl, _, rfl, _, rfl, ?_⟩
      refine slA_of (tupS sA hW) ((cut_take (v := 1 + (i : Int)) (i + 1) (by omega)).trans (List.map_take ..).symm) fun p1 H1 s2 h1 => ?_
      refine ⟨_, rfl, _, rfl, _, rfl, ?_⟩
      refine no_part ?_
      refine slA_of (tupS (sA.trans s2) hW) ((cut_drop (v := 1 + (i : Int)) (i + 1) (by omega)).trans (List.map_drop ..).symm) fun p2 H2 s3 h2 => ?_
      refine ⟨small3, fun q hq => ?_⟩
      have s4 := same_new (o := .tup [.ref p1, .ref p2, .bl false]) hq
      have d := dp_spl (x := (wd.take (i + 1), wd.drop (i + 1), false)) (SqT.of upd_same) (tupS (s3.trans s4) h1) (tupS s4 h2)
      exact kk _ _ ((s2.trans s3).trans s4) (dp_fsh ((s2.trans s3).trans s4) (noL_spl _) d)
    intro H2 ws s2 e2 l2 r2
    refine ⟨D2, ws, rfl, .inr (SqL.of e2), ?_⟩
    have e1' := s2 _ _ e1
    refine ⟨by rw [List.append_nil, List.length_append, l1, l2]; have : sizeLine = 16777216 := sizeLine_eq; omega, fun p hp => ?_⟩
    have ea : us ++ (ws ++ []) = us ++ ws := by rw [List.append_nil]
    rw [ea]
    have sp := same_new (o := .lst (us ++ ws)) hp
    have sA := (s1.trans s2).trans sp
    have np : H p = none := by
      cases q : H p with
      | none => rfl
      | some u => rw [(s1.trans s2) _ _ q] at hp; cases hp
    refine k _ _ sA ⟨p, _, rfl, by rw [fsh_none np]; exact upd_same, ?_⟩
    refine dpAll_fsh sA (noLs_map noL_spl) ?_
    unfold splitsL
    rw [List.map_append]
    refine DpAll.append ?_ ?_
    · refine dpAll_of (by rw [l1]; simp) fun i y d ey ed => ?_
      rw [List.getElem?_map] at ed
      obtain ⟨x, ex, rfl⟩ := Option.map_eq_some_iff.mp ed
      rw [List.getElem?_map] at ex
      obtain ⟨j, ej, rfl⟩ := Option.map_eq_some_iff.mp ex
      have := (List.getElem?_eq_some_iff.mp ej)
      obtain ⟨hj, ej⟩ := this
      rw [List.getElem_range] at ej
      subst ej
      exact ((r1 _ y ey).mono own_le).mono (s2.trans sp)
    · refine dpAll_of (by rw [l2]; simp) fun i y d ey ed => ?_
      rw [List.getElem?_map] at ed
      obtain ⟨x, ex, rfl⟩ := Option.map_eq_some_iff.mp ed
      rw [List.getElem?_map] at ex
      obtain ⟨j, ej, rfl⟩ := Option.map_eq_some_iff.mp ex
      have := (List.getElem?_eq_some_iff.mp ej)
      obtain ⟨hj, ej⟩ := this
      rw [List.getElem_range] at ej
      subst ej
      exact ((r2 _ y ey).mono own_le).mono sp
end
end K6
set_option Elab.async false
set_option linter.all false
set_option maxRecDepth 100000
set_option maxHeartbeats 4000000
namespace K6
open PySem PySem.Spec PyProof.Rows L2
/-! ### generators -/
theorem Fn.gen {P : Program} {w : World} {K : PySem.W.Frag} {mg : Str → Option Value} {base : Heap} {x qual : Str} {st : Stmt} {f : Addr} {fd : FuncData} {N ps : List Str} {k : Nat} {sp : SpG} (F : Fn K x qual st f fd) (S : GScope N ps (defScope st)) (len : ∀ vs H Q E, sp vs H Q E → vs.length = ps.length)
    (hbody : ∀ (cdv : Value) (A : Around) (outer : List Env) (s : Shared) (H : Hp) (vs : List V) (Q : List V → Hp → Prop) (E : XK) (pn : List (Addr × Obj)), Room k (A.deeper (envOfC qual (defScope st) s.heap.objs.size f cdv)) → sp vs H Q E →
      ∃ t, GSs (gcxOf P w K mg base N qual (defScope st) f cdv A outer s H E pn) (defBody st) t ∧ t { nx := fun ys _ H' => Q ys H', rt := fun ys v H' => v = .non ∧ Q ys H' } [] (start N vs) H) : GFn P w K mg base (k + 1) f fd ps sp := by
  obtain ⟨oc, od, dV, kV, doc, pm, an, cdv, ct, osl, rfl, lk, hcd⟩ := F.ex
  exact gfn_of lk hcd S len fun A outer s H vs Q E pn hr hsp => hbody cdv A outer s H vs Q E pn hr hsp
theorem gfor_it {J : It} {n : Nat} {G : Hp → Prop} {Y : Nat → Hp → V → Hp → Prop} (w : Walk J n G Y) {g : TG} {tb : TGn} {D : GEnds} {ys : List V} {σ : L2.St} {H : Hp} (Pv : Nat → List V → L2.St → Hp → Prop) (h0 : Pv 0 ys σ H) (hG : ∀ i ys σ H, i ≤ n → Pv i ys σ H → G H)
    (hs : ∀ i x ys σ H H', i < n → Pv i ys σ H → Y i H x H' → g x σ H' fun σ2 H2 => tb { D with nx := Pv (i + 1), ct := Pv (i + 1), bk := D.nx } ys σ2 H2) (hd : ∀ ys σ H, Pv n ys σ H → D.nx ys σ H) :
    ∃ W : Nat → Nat → List V → L2.St → Hp → Prop, (∃ m, W 0 m ys σ H) ∧ ∀ i m ys σ H, W i m ys σ H →
      (J.stop i H ∧ D.nx ys σ H) ∨ (J.go i H ∧ ∃ N : List V → L2.St → Hp → Prop, (∀ ys' σ' H', N ys' σ' H' → ∃ m', m' < m ∧ W (i + 1) m' ys' σ' H') ∧ ∀ x H', J.yld i H x H' → g x σ H' fun σ2 H2 => tb { D with nx := N, ct := N, bk := D.nx } ys σ2 H2) := by
  refine ⟨fun i m ys σ H => m = n - i ∧ i ≤ n ∧ Pv i ys σ H, ⟨n, by simp, Nat.zero_le _, h0⟩, ?_⟩
  rintro i m ys σ H ⟨rfl, hi, p⟩
  have q := hG i ys σ H hi p
  by_cases hlt : i < n
  · refine .inr ⟨w.goes i H hlt q, Pv (i + 1), fun ys' σ' H' p' => ⟨n - (i + 1), by omega, rfl, hlt, p'⟩, fun x H' y => ?_⟩
    exact hs i x ys σ H H' hlt p (w.yields i H x H' hlt q y)
  · have e : i = n := by omega
    subst e
    exact .inl ⟨w.stops H q, hd ys σ H p⟩
theorem LvI.fsh {D : Ads} {H H' : Hp} {a : Addr} {hv wv : V} {b : Bool} {E : List (Int × Int)} {t1 t2 : Bool} {n : Nat} {dx : Addr} {fs : List (Str × V)} {pl pr pt : Addr} (h : LvI D H' a hv wv b E t1 t2 n dx fs pl pr pt) (ha : H a = none) (hl : H pl = none) (hr : H pr = none) (ht : H pt = none) :
    LvI D (fsh H H') a hv wv b E t1 t2 n dx fs pl pr pt :=
  ⟨by rw [fsh_none ha]; exact h.ins, h.halves, h.way, h.same, h.left, h.right, h.turned, h.len, by rw [fsh_none hl]; exact h.hl, by rw [fsh_none hr]; exact h.hr, by rw [fsh_none ht]; exact h.ht, h.only⟩
/-- levels, told by ls -/
def LvL (K : PySem.W.Frag) (D : Ads) (H : Hp) (st : List Stp) (ys : List V) (ls : List Lev) : Prop := ys.length = ls.length ∧ ∀ (i : Nat) (y : V), ys[i]? = some y → ∃ l, ls[i]? = some l ∧ LevAt K D H y (st, l)
theorem LvL.mono {K : PySem.W.Frag} {D : Ads} {H H' : Hp} {st : List Stp} {ys : List V} {ls : List Lev} (s : Same H H') (h : LvL K D H st ys ls) : LvL K D H' st ys ls :=
  ⟨h.1, fun i y e => by
    obtain ⟨l, h1, h2⟩ := h.2 i y e
    exact ⟨l, h1, h2.mono s⟩⟩
theorem LvL.snoc {K : PySem.W.Frag} {D : Ads} {H : Hp} {st : List Stp} {ys : List V} {ls : List Lev} {y : V} {l : Lev} (h : LvL K D H st ys ls) (hy : LevAt K D H y (st, l)) : LvL K D H st (ys ++ [y]) (ls ++ [l]) := by
  refine ⟨by simp [h.1], fun i z e => ?_⟩
  by_cases q : i < ys.length
  · rw [List.getElem?_append_left q] at e
    obtain ⟨l', h1, h2⟩ := h.2 i z e
    exact ⟨l', by rw [List.getElem?_append_left (by rw [← h.1]; exact q)]; exact h1, h2⟩
  · have hi : i = ys.length := by
      have := (List.getElem?_eq_some_iff.mp e).1
      simp at this; omega
    subst hi
    rw [List.getElem?_append_right (Nat.le_refl _)] at e
    simp at e
    subst e
    refine ⟨l, ?_, hy⟩
    rw [List.getElem?_append_right (by rw [h.1]; exact Nat.le_refl _), h.1]; simp
theorem dp_spl_get {K : PySem.W.Frag} {H : Hp} {v : V} {x : Spl} (h : Dp K H v (splD x)) : ∃ a la ra, v = .ref a ∧ SqT K H a [.ref la, .ref ra, .bl x.2.2] ∧ SqT K H la (x.1.map V.int) ∧ SqT K H ra (x.2.1.map V.int) := by
  exact halves_get (l := ⟨x.1, x.2.1, x.2.2, []⟩) h
abbrev levW (x : Spl) (w : List (Nat × Nat)) : Lev := ⟨x.1, x.2.1, x.2.2, w⟩
section
variable {P : Program} {w : World} {K : PySem.W.Frag} {mg : Str → Option Value} {base : Heap} {D : Ads}
theorem scLevels : GScope ["steps", "word", "told", "is_same", "left", "right", "is_within", "way"] ["steps", "word"] (defScope sLevels) := ⟨rfl, rfl, rfl, by decide +kernel, rfl, by decide +kernel, by decide +kernel⟩
def spLevels (K : PySem.W.Frag) (D : Ads) : SpG := fun vs H Q _ => ∃ (sv : V) (wa : Addr) (st : List Stp) (wd : List Int), vs = [sv, .ref wa] ∧ Dp K H sv (stpsD st) ∧ st.length ≤ 3 ∧ SqT K H wa (wd.map V.int) ∧ 0 < wd.length ∧ wd.length ≤ 4 ∧
  ∀ ys H' ls, Same H H' → LvL K D (fsh H H') st ys ls → (∀ l, l ∈ ls ↔ LevOf wd l) → ys.length ≤ 512 → Q ys H'
theorem ok_levels (T : Txt K mg D) : GFn P w K mg base 5 (D.d 35).f (D.d 35).fd ["steps", "word"] (spLevels K D) := by
  refine T.w35.F.gen scLevels (fun vs H Q E h => ?_) (fun cdv A outer s H vs Q E pn hr h => ?_)
  · obtain ⟨a, _, _, _, rfl, _⟩ := h
    rfl
  · obtain ⟨sv, wa, st, wd, rfl, hs, h3, hW, h0, h4, k⟩ := h
    refine ⟨_, (gss_cons (gs_ps (ps_set (i := 2) scLevels.nd rfl (by first | exact Or.inl rfl | exact Or.inr rfl) (pe_call (ok_relations T) (hr.mono (by decide)) (by rfl) T.w22.m T.w22.F.kp T.w22.B .nil pass0 (pa_cons (pv 0) pa_nil))))
      (gss_cons (gs_ps (ps_set (i := 3) scLevels.nd rfl (by first | exact Or.inl rfl | exact Or.inr rfl) (pe_or (pe_cmpR (op_eqD hr.units) (pv 2) (pe_lst pa_nil) (nomark _)) (pe_one (pe_ix ix_list (pv 2) pe_int (fun _ _ => rfl))))))
      (gss_cons (gs_for owns_gcx rfl (pi_list (pe_call (ok_splits T) (hr.mono (by decide)) (by rfl) T.w33.m T.w33.F.kp T.w33.B .nil pass0 (pa_cons (pv 1) pa_nil))) (pg_tup (by rfl) (pgs_cons (pg_name (i := 4) scLevels.nd rfl (by first | exact Or.inl rfl | exact Or.inr rfl)) (pgs_cons (pg_name (i := 5) scLevels.nd rfl (by first | exact Or.inl rfl | exact Or.inr rfl)) (pgs_cons (pg_name (i := 6) scLevels.nd rfl (by first | exact Or.inl rfl | exact Or.inr rfl)) pgs_nil)))) (gss_cons (gs_for owns_gcx rfl (pi_list (pe_call (ok_overlays T) (hr.mono (by decide)) (by rfl) T.w32.m T.w32.F.kp T.w32.B .nil pass0 (pa_cons (pv 4) (pa_cons (pe_ifExp (pt_val (pv 3)) (pv 5) (pe_revT (pv 5))) pa_nil)))) (pg_name (i := 7) scLevels.nd rfl (by first | exact Or.inl rfl | exact Or.inr rfl)) (gss_cons (gs_yield (pe_make T.w340.M (ok_levelInit T) (hr.mono (by decide)) (by rfl) T.w340.m T.w340.B .nil pass0 (pa_cons (pv 0) (pa_cons (pe_tup (pa_cons (pv 4) (pa_cons (pv 5) (pa_cons (pv 6) pa_nil)))) (pa_cons (pv 7) pa_nil)))))
      gss_nil))
      gss_nil))
      gss_nil))), ?_⟩
    -- told, is_same
    refine ⟨_, rfl, sv, st, rfl, hs, h3, fun H2 tv s2 ht => ?_⟩
    have hT := ht.mono fsh_le
    obtain ⟨tp, txs, rfl, ht1, ht2⟩ := id hT
    have etx := DpAll.of_bools ht2
    subst etx
    refine told_same (bs := rels true st) rfl (SqL.of ht1) fun q hq => ?_
    have s3 : Same H (upd H2 q (.lst [])) := s2.trans (same_new hq)
    generalize upd H2 q (.lst []) = H3 at s3 ⊢
    -- for left, right, is_within in splits(word)
    refine ⟨_, rfl, wa, wd, rfl, tupS s3 hW, h0, h4, fun H4 v s4 hv => ?_⟩
    have hv' := hv.mono fsh_le
    obtain ⟨p, xs, rfl, hp, hx⟩ := hv'
    have hlx : xs.length = (splitsL wd).length := by rw [hx.length]; simp
    have sH4 := s3.trans s4
    refine ⟨p, rfl, ⟨_, SqL.of hp⟩, ?_⟩
    have wl := splitsL_len wd
    refine gfor_it (walk_list (K := K) (a := p) (xs := xs)) (fun i ys σ Hx => ∃ z1 z2 z3 z4 ls, σ = [some sv, some (.ref wa), some (.ref tp), some (.bl (same st)), z1, z2, z3, z4] ∧ Same H4 Hx ∧ LvL K D (fsh H Hx) st ys ls ∧ ys.length ≤ i * 64 ∧
      ∀ l, l ∈ ls ↔ ∃ x ∈ (splitsL wd).take i, ∃ w', l = levW x w' ∧ WayFrom x.1.length x.2.1.length 0 0 w') ⟨none, none, none, none, [], rfl, Same.refl _, ⟨rfl, fun i y e => by simp at e⟩, Nat.le_refl _, fun l => by simp⟩ (fun i ys σ Hx _ ⟨_, _, _, _, _, _, h, _⟩ => h.seq (SqL.of hp)) ?_ ?_
    · rintro i x ys σ Hx Hy hi ⟨z1, z2, z3, z4, ls, rfl, hS, hL, hlen, hmem⟩ ⟨rfl, ex⟩
      obtain ⟨d, ed, hd⟩ := hx.getV ex
      rw [List.getElem?_map] at ed
      obtain ⟨spx, es, rfl⟩ := Option.map_eq_some_iff.mp ed
      obtain ⟨ia, la, ra, rfl, hi1, hi2, hi3⟩ := dp_spl_get (hd.mono hS)
      have hsp : IsSplit wd spx.1 spx.2.1 spx.2.2 := mem_splitsL.mp (List.mem_of_getElem? es)
      obtain ⟨hp1, hp2, hp3⟩ := hsp.pos
      refine ⟨ia, _, rfl, hi1, rfl, _, _, rfl, _, _, rfl, _, _, rfl, rfl, ?_⟩
      -- for way in overlays(..)
      have sHx := sH4.trans hS
      refine ⟨_, rfl, right_join (same st) (fun G q => ⟨_, rfl, same st, rfl, q⟩) hi3 (fun G q => ⟨_, rfl, q⟩) fun rr H5 s5 hrr => ?_⟩
      refine ⟨la, rr, spx.1, flipIf (!same st) spx.2.1, rfl, tupS s5 hi2, hrr, hp1, by rw [length_flipIf]; exact hp2, by rw [length_flipIf]; omega, fun H6 v ws s6 hv6 hws hwl => ?_⟩
      obtain ⟨pw, wxs, rfl, hpw, hwx⟩ := hv6.mono fsh_le
      have hwl2 : wxs.length = ws.length := by rw [hwx.length]; simp
      have sH6 := (sHx.trans s5).trans s6
      refine ⟨pw, rfl, ⟨_, SqL.of hpw⟩, ?_⟩
      refine gfor_it (walk_list (K := K) (a := pw) (xs := wxs)) (fun j ys σ Hx => ∃ z4 ls, σ = [some sv, some (.ref wa), some (.ref tp), some (.bl (same st)), some (.ref la), some (.ref ra), some (.bl spx.2.2), z4] ∧ Same H6 Hx ∧ LvL K D (fsh H Hx) st ys ls ∧ ys.length ≤ i * 64 + j ∧
        ∀ l, l ∈ ls ↔ (∃ x ∈ (splitsL wd).take i, ∃ w', l = levW x w' ∧ WayFrom x.1.length x.2.1.length 0 0 w') ∨ ∃ w' ∈ ws.take j, l = levW spx w') ⟨_, ls, rfl, Same.refl _, hL.mono (fsh_mono (s5.trans s6)), by omega, fun l => by rw [hmem]; simp⟩ (fun i ys σ Hx _ ⟨_, _, _, h, _⟩ => h.seq (SqL.of hpw)) ?_ ?_
      · rintro j x2 ys2 σ Hx2 Hy2 hj ⟨z4, ls2, rfl, hS2, hL2, hlen2, hmem2⟩ ⟨rfl, ex2⟩
        obtain ⟨d2, ed2, hd2⟩ := hwx.getV ex2
        rw [List.getElem?_map] at ed2
        obtain ⟨w', ew, rfl⟩ := Option.map_eq_some_iff.mp ed2
        have hway := (hws w').mp (List.mem_of_getElem? ew)
        rw [length_flipIf] at hway
        have sHx2 := sH6.trans hS2
        have sx := s5.trans (s6.trans hS2)
        refine ⟨?_, ?_⟩
        · have : sizeLine = 16777216 := sizeLine_eq
          omega
        refine ⟨_, rfl, _, rfl, _, rfl, _, rfl, small3, fun q3 hq3 => ⟨_, rfl, fun xa dx hxa hdx hne => ?_⟩⟩
        have s7 := same_new (o := .tup [.ref la, .ref ra, .bl spx.2.2]) hq3
        have n1 : H xa = none := by
          cases q : H xa with
          | none => rfl
          | some u => rw [(sHx2.trans s7) _ _ q] at hxa; cases hxa
        have s8 : Same (upd Hy2 q3 (.tup [.ref la, .ref ra, .bl spx.2.2])) (upd (upd (upd Hy2 q3 (.tup [.ref la, .ref ra, .bl spx.2.2])) dx (.own xa)) xa (.ins D.level dx [])) := (same_new hdx).trans (same_new (by rw [upd_ne (Ne.symm hne)]; exact hxa))
        have s78 := s7.trans s8
        have hin : InR (levW spx w') := fun p hp => hway.bd p hp
        refine ⟨xa, dx, sv, .ref q3, x2, st, levW spx w', rfl, upd_same, hs.mono (sHx2.trans s78), h3, ?_, hd2.mono (hS2.trans s78), hin, ?_, fun H9 fs pl pr pt s9 m1 m2 m3 hI => ⟨rfl, ?_⟩⟩
        · exact .tup (SqT.of (s8 _ _ upd_same)) (.cons (dp_w (tupS (sx.trans s78) hi2)) (.cons (dp_w (tupS (sx.trans s78) hi3)) (.cons (.bl _) .nil)))
        · have := hway.len
          show w'.length ≤ 100
          omega
        · have back : ∀ {q}, (upd (upd (upd Hy2 q3 (.tup [.ref la, .ref ra, .bl spx.2.2])) dx (.own xa)) xa (.ins D.level dx [])) q = none → H q = none := fun {q} e => by
            cases z : H q with
            | none => rfl
            | some u => rw [(sHx2.trans s78) _ _ z] at e; cases e
          have sHm9 : Same Hy2 H9 := fun b u e => by
            have hb : b ≠ xa := fun z => by rw [z] at e; rw [s7 _ _ e] at hxa; cases hxa
            exact s9 b u (by rw [drp_not (by simpa using hb)]; exact s78 _ _ e)
          have tq : SqT K H9 q3 [.ref la, .ref ra, .bl spx.2.2] := by
            refine tupS s9 (tup_drp upd_same rfl (SqT.of (s8 _ _ upd_same)))
          have lev : LevAt K D (fsh H H9) (.ref xa) (st, levW spx w') := by
            refine .of (hI.fsh n1 (back m1) (back m2) (back m3)) ?_ ?_
            · exact dp_fsh (sHx2.trans sHm9) (noL_halves _) (.tup tq (.cons (dp_w (tupS (sx.trans sHm9) hi2)) (.cons (dp_w (tupS (sx.trans sHm9) hi3)) (.cons (.bl _) .nil))))
            · exact dp_fsh (sHx2.trans sHm9) (noL_way _) (hd2.mono (hS2.trans sHm9))
          refine ⟨_, ls2 ++ [levW spx w'], rfl, hS2.trans sHm9, (hL2.mono (fsh_mono sHm9)).snoc lev, by rw [List.length_append]; show ys2.length + 1 ≤ _; omega, fun l => ?_⟩
          have et : ws.take (j + 1) = ws.take j ++ [w'] := by rw [List.take_add_one, ew]; rfl
          rw [List.mem_append, hmem2, et]
          constructor
          · rintro (h | h)
            · rcases h with h | ⟨w2, hw2, e⟩
              · exact .inl h
              · exact .inr ⟨w2, List.mem_append_left _ hw2, e⟩
            · exact .inr ⟨w', by simp, by simpa using h⟩
          · rintro (h | ⟨w2, hw2, e⟩)
            · exact .inl (.inl h)
            · rcases List.mem_append.mp hw2 with h | h
              · exact .inl (.inr ⟨w2, h, e⟩)
              · rw [List.mem_singleton.mp h] at e
                exact .inr (by simpa using e)
      · rintro ys2 σ Hx2 ⟨z4, ls2, rfl, hS2, hL2, hlen2, hmem2⟩
        rw [hwl2] at hlen2 hmem2
        refine ⟨_, _, _, _, ls2, rfl, (hS.trans (s5.trans s6)).trans hS2, hL2, by omega, fun l => ?_⟩
        rw [hmem2, List.take_length]
        have et : (splitsL wd).take (i + 1) = (splitsL wd).take i ++ [spx] := by rw [List.take_add_one, es]; rfl
        rw [et]
        constructor
        · rintro (⟨x, hx, r⟩ | ⟨w2, hw2, e⟩)
          · exact ⟨x, List.mem_append_left _ hx, r⟩
          · refine ⟨spx, by simp, w2, e, ?_⟩
            have := (hws w2).mp hw2
            rw [length_flipIf] at this
            exact this
        · rintro ⟨x, hx, w2, e, hw⟩
          rcases List.mem_append.mp hx with h | h
          · exact .inl ⟨x, h, w2, e, hw⟩
          · rw [List.mem_singleton.mp h] at e hw
            exact .inr ⟨w2, (hws w2).mpr (by rw [length_flipIf]; exact hw), e⟩
    · rintro ys σ Hx ⟨z1, z2, z3, z4, ls, rfl, hS, hL, hlen, hmem⟩
      refine k ys Hx ls (sH4.trans hS) hL (fun l => ?_) (by omega)
      rw [hmem, hlx, List.take_length]
      constructor
      · rintro ⟨x, hx, w', rfl, hw⟩
        exact ⟨mem_splitsL.mp hx, hw⟩
      · rintro ⟨hs, hw⟩
        exact ⟨(l.lw, l.rw, l.win), mem_splitsL.mpr hs, l.way, rfl, hw⟩
end
end K6
set_option Elab.async false
set_option linter.all false
set_option maxRecDepth 100000
set_option maxHeartbeats 4000000
namespace K6
open PySem PySem.Spec PyProof.Rows L2
/-- the text, where the world's hashes matter -/
structure Txu (w : World) (K : PySem.W.Frag) (mg : Str → Option Value) (D : Ads) : Prop where
  T : Txt K mg D
  oup : KDct K w D.other "up" (.str "down")
  odn : KDct K w D.other "down" (.str "up")
  oex : OexC K D.outside
  oxf : XfC K D.outside
  owhy : PySem.W.findIn K (.ref D.outside) "why" = some none
  oini : PySem.W.findIn K (.ref D.outside) "__init__" = some (some (.ref (D.d 500).f))
  ofun : PySem.W.typeIn K (.ref (D.d 500).f) = some (.type "function")
  oF : Fn K "__init__" "Outside.__init__" sOutsideInit (D.d 500).f (D.d 500).fd
  oB : Binds K (D.d 500).fd ["self", "why"] []
  oM : mg "Outside" = some (.ref D.outside)
/-! ### rows -/
def AllR {α : Type} (R : Hp → V → α → Prop) (H : Hp) (xs : List V) (as : List α) : Prop := xs.length = as.length ∧ ∀ (i : Nat) (x : V), xs[i]? = some x → ∃ a, as[i]? = some a ∧ R H x a
theorem AllR.mono {α : Type} {R : Hp → V → α → Prop} (hR : ∀ H H' x a, Same H H' → R H x a → R H' x a) {H H' : Hp} {xs : List V} {as : List α} (s : Same H H') (h : AllR R H xs as) : AllR R H' xs as :=
  ⟨h.1, fun i y e => by
    obtain ⟨l, h1, h2⟩ := h.2 i y e
    exact ⟨l, h1, hR _ _ _ _ s h2⟩⟩
theorem AllR.nil {α : Type} {R : Hp → V → α → Prop} {H : Hp} : AllR R H [] [] := ⟨rfl, fun i x e => by simp at e⟩
theorem AllR.snoc {α : Type} {R : Hp → V → α → Prop} {H : Hp} {ys : List V} {ls : List α} {y : V} {l : α} (h : AllR R H ys ls) (hy : R H y l) : AllR R H (ys ++ [y]) (ls ++ [l]) := by
  refine ⟨by simp [h.1], fun i z e => ?_⟩
  by_cases q : i < ys.length
  · rw [List.getElem?_append_left q] at e
    obtain ⟨l', h1, h2⟩ := h.2 i z e
    exact ⟨l', by rw [List.getElem?_append_left (by rw [← h.1]; exact q)]; exact h1, h2⟩
  · have hi : i = ys.length := by
      have := (List.getElem?_eq_some_iff.mp e).1
      simp at this; omega
    subst hi
    rw [List.getElem?_append_right (Nat.le_refl _)] at e
    simp at e
    subst e
    refine ⟨l, ?_, hy⟩
    rw [List.getElem?_append_right (by rw [h.1]; exact Nat.le_refl _), h.1]; simp
def sideV : Option Bool → V
  | none => .non
  | some false => .int 0
  | some true => .int 1
def nodeO : Option Node → PyData
  | none => .none
  | some n => nodeD n
theorem noL_nodeO (n : Option Node) : noL (nodeO n) = true := by
  cases n with
  | none => show noL .none = true; rw [noL]
  | some n => exact noL_node n
def RowAt (K : PySem.W.Frag) (D : Ads) (H : Hp) (v : V) (r : PRow) : Prop := ∃ (a : Addr) (vl nv : V), v = .ref a ∧ SqT K H a [vl, sideV r.side, nv, .bl r.turned] ∧ LevAt K D H vl r.lv ∧ Dp K H nv (nodeO r.node)
theorem RowAt.mono {K : PySem.W.Frag} {D : Ads} {H H' : Hp} {v : V} {r : PRow} (s : Same H H') (h : RowAt K D H v r) : RowAt K D H' v r := by
  obtain ⟨a, vl, nv, rfl, h1, h2, h3⟩ := h
  exact ⟨a, vl, nv, rfl, tupS s h1, h2.mono s, h3.mono s⟩
def badRow (lv : Lvl) : PRow := ⟨lv, none, none, false⟩
def rowsSide (lm : Loom) (up : Bool) (lv : Lvl) (s : Bool) : List PRow := match lm.call s with
  | some c => [⟨lv, some s, some (child c up (halfW lv s)), c.2⟩]
  | none => if srt up (halfW lv s) then [] else [badRow lv]
def rowsLv (lm : Loom) (up : Bool) (lv : Lvl) : List PRow := (if isBad lv up then [badRow lv] else []) ++ (rowsSide lm up lv false ++ rowsSide lm up lv true)
def rowsF (lm : Loom) (up : Bool) (ls : List Lev) : List PRow := ls.flatMap fun l => rowsLv lm up (lm.steps, l)
theorem rowsSide_len (lm : Loom) (up : Bool) (lv : Lvl) (s : Bool) : (rowsSide lm up lv s).length ≤ 1 := by
  unfold rowsSide
  split
  · simp
  · split <;> simp
theorem rowsLv_len (lm : Loom) (up : Bool) (lv : Lvl) : (rowsLv lm up lv).length ≤ 3 := by
  unfold rowsLv
  have h1 := rowsSide_len lm up lv false
  have h2 := rowsSide_len lm up lv true
  have h3 : (if isBad lv up then [badRow lv] else []).length ≤ 1 := by split <;> simp
  rw [List.length_append, List.length_append]; omega
theorem rowsF_len (lm : Loom) (up : Bool) : ∀ ls : List Lev, (rowsF lm up ls).length ≤ 3 * ls.length
  | [] => by simp [rowsF]
  | l :: ls => by
    have h1 := rowsLv_len lm up (lm.steps, l)
    have h2 := rowsF_len lm up ls
    have e : rowsF lm up (l :: ls) = rowsLv lm up (lm.steps, l) ++ rowsF lm up ls := by simp [rowsF]
    rw [e, List.length_append, List.length_cons]; omega
theorem mem_rowsSide {lm : Loom} {up : Bool} {lv : Lvl} {s : Bool} {r : PRow} : r ∈ rowsSide lm up lv s ↔ (lm.call s = none ∧ ¬ srt up (halfW lv s) ∧ r = badRow lv) ∨ ∃ c, lm.call s = some c ∧ r = ⟨lv, some s, some (child c up (halfW lv s)), c.2⟩ := by
  unfold rowsSide
  cases h : lm.call s with
  | some c => simp
  | none =>
    by_cases q : srt up (halfW lv s)
    · simp [q]
    · simp [q]
theorem mem_rowsF {L : Looms} {n : Node} {ls : List Lev} (hls : ∀ l, l ∈ ls ↔ LevOf n.w l) {r : PRow} : r ∈ rowsF (L.at n.nm) n.up ls ↔ RowOf L n r := by
  unfold rowsF RowOf
  rw [List.mem_flatMap]
  constructor
  · rintro ⟨l, hl, h⟩
    unfold rowsLv at h
    have hL := (hls l).mp hl
    rcases List.mem_append.mp h with h | h
    · split at h
      · rename_i hb
        rw [List.mem_singleton.mp h]
        exact ⟨rfl, hL, .inl ⟨rfl, .inl hb⟩⟩
      · simp at h
    · have key : ∀ s, r ∈ rowsSide (L.at n.nm) n.up ((L.at n.nm).steps, l) s → RowOf L n r := fun s h => by
        rcases mem_rowsSide.mp h with ⟨h1, h2, rfl⟩ | ⟨c, h1, rfl⟩
        · exact (⟨rfl, hL, .inl ⟨rfl, .inr ⟨s, h1, h2⟩⟩⟩ : RowOf L n (badRow ((L.at n.nm).steps, l)))
        · exact ⟨rfl, hL, .inr ⟨s, c, h1, rfl⟩⟩
      rcases List.mem_append.mp h with h | h
      · exact key _ h
      · exact key _ h
  · rintro ⟨h1, h2, h3⟩
    obtain ⟨⟨st, l⟩, side, node, turned⟩ := r
    simp only at h1 h2
    subst h1
    refine ⟨l, (hls l).mpr h2, ?_⟩
    unfold rowsLv
    rcases h3 with ⟨e, h3⟩ | ⟨s, c, hc, e⟩
    · rw [e]
      rcases h3 with h3 | ⟨s, hs, h3⟩
      · refine List.mem_append_left _ ?_
        rw [if_pos h3]; exact List.mem_singleton.mpr rfl
      · refine List.mem_append_right _ ?_
        have := mem_rowsSide.mpr (.inl ⟨hs, h3, rfl⟩ : _ ∨ ∃ c, (L.at n.nm).call s = some c ∧ badRow ((L.at n.nm).steps, l) = ⟨((L.at n.nm).steps, l), some s, some (child c n.up (halfW ((L.at n.nm).steps, l) s)), c.2⟩)
        cases s with
        | false => exact List.mem_append_left _ this
        | true => exact List.mem_append_right _ this
    · rw [e]
      refine List.mem_append_right _ ?_
      have := mem_rowsSide.mpr (.inr ⟨c, hc, rfl⟩ : (_ ∧ _ ∧ (⟨((L.at n.nm).steps, l), some s, some (child c n.up (halfW ((L.at n.nm).steps, l) s)), c.2⟩ : PRow) = badRow _) ∨ _)
      cases s with
      | false => exact List.mem_append_left _ this
      | true => exact List.mem_append_right _ this
/-- the growing list of rows -/
structure RwS (K : PySem.W.Frag) (D : Ads) (H0 : Hp) (pf : Addr) (rs : List PRow) (xs : List V) (Hx : Hp) : Prop where
  s : Same H0 Hx
  nf : H0 pf = none
  hf : Hx pf = some (.lst xs)
  d : AllR (RowAt K D) (own [pf] H0 Hx) xs rs
section
variable {K : PySem.W.Frag} {D : Ads} {H0 Hx Hy : Hp} {pf q : Addr} {rs : List PRow} {xs : List V} {r : PRow}
theorem RwS.grow (h : RwS K D H0 pf rs xs Hx) (e : Same Hx Hy) : RwS K D H0 pf rs xs Hy := ⟨h.s.trans e, h.nf, e _ _ h.hf, h.d.mono (fun _ _ _ _ s h => h.mono s) (own_same e)⟩
theorem RwS.lists (h : RwS K D H0 pf rs xs Hx) : ∀ l ∈ [pf], ∃ o, Hx l = some o ∧ isTup o = false := fun l hl => by
  rw [List.mem_singleton.mp hl]; exact ⟨_, h.hf, rfl⟩
/-- a new row -/
theorem RwS.push (h : RwS K D H0 pf rs xs Hx) {vl nv : V} (hq : Hx q = none) (hl : LevAt K D (own [pf] H0 Hx) vl r.lv) (hn : Dp K Hx nv (nodeO r.node)) :
    (upd Hx q (.tup [vl, sideV r.side, nv, .bl r.turned])) pf = some (.lst xs) ∧ RwS K D H0 pf (rs ++ [r]) (xs ++ [.ref q]) (upd (upd Hx q (.tup [vl, sideV r.side, nv, .bl r.turned])) pf (.lst (xs ++ [.ref q]))) := by
  have s1 := same_new (o := .tup [vl, sideV r.side, nv, .bl r.turned]) hq
  have g := h.grow s1
  refine ⟨g.hf, same_upd_new g.s g.nf, g.nf, upd_same, ?_⟩
  rw [own_upd (by simp)]
  refine g.d.snoc ⟨q, vl, nv, rfl, tup_own g.s g.lists (SqT.of upd_same), hl.mono (own_same s1), dp_own g.s g.lists (noL_nodeO _) (hn.mono s1)⟩
end
theorem own_in {H0 H : Hp} {pf : Addr} (hp : H pf = none) : Same (fsh H0 H) (own [pf] H0 H) := fun b u e => by
  have hb : b ≠ pf := fun z => by rw [z] at e; rw [fsh_le _ _ e] at hp; cases hp
  unfold own
  rw [drp_not (by simpa using hb)]
  exact e
theorem passF {X : Cx} : Passes (L2.CX X.prog X.w) X (fun _ _ _ => False) := fun pins σ s H e s' I h => by
  obtain ⟨_, _, _, _, _, _, _, _, _, _, _, _, q⟩ := h
  exact q.elim
theorem noStopF {K : PySem.W.Frag} : NoStop K (fun _ _ _ => False) := fun _ _ _ h => h.elim
section
variable {P : Program} {w : World} {K : PySem.W.Frag} {mg : Str → Option Value} {base : Heap} {D : Ads}
def spNodeOf (K : PySem.W.Frag) : Sp := fun vs H Q _ => ∃ (cv : V) (wa : Addr) (c : Nat × Bool) (up : Bool) (wd : List Int), vs = [cv, .str (ordS up), .ref wa] ∧ Dp K H cv (callD (some c)) ∧ SqT K H wa (wd.map V.int) ∧ RetD K H Q (nodeD (child c up wd))
theorem ok_nodeOf (U : Txu w K mg D) : FnOk P w K mg base CX0 1 (D.d 43).f (D.d 43).fd ["call", "order", "word"] (spNodeOf K) := by
  have T := U.T
  refine T.w43.F.ok scNodeOf (fun vs H Q E h => ?_) (fun cdv A outer s H vs Q E hr h => ?_)
  · obtain ⟨_, _, _, _, _, rfl, _⟩ := h
    rfl
  · obtain ⟨cv, wa, c, up, wd, rfl, hc, hw, k⟩ := h
    refine ⟨_, (pss_one (ps_ret (pe_ifExp (pt_val (pe_ix ix_tup (pv 0) pe_int (fun _ _ => rfl))) (pe_tup (pa_cons (pe_ix ix_tup (pv 0) pe_int (fun _ _ => rfl)) (pa_cons (pe_ix ix_kdict (pe_glob (v := .ref D.other) (by rfl) T.otherM rfl) (pv 1) (fun _ _ => rfl)) (pa_cons (pe_revT (pv 2)) pa_nil)))) (pe_tup (pa_cons (pe_ix ix_tup (pv 0) pe_int (fun _ _ => rfl)) (pa_cons (pv 1) (pa_cons (pv 2) pa_nil))))))), ?_⟩
    obtain ⟨ca, rfl, hca⟩ := call_get hc
    obtain ⟨nm, t⟩ := c
    refine ⟨_, rfl, _, _, _, .bl t, rfl, rfl, hca, at_of (j := 1) rfl rfl, t, rfl, ?_⟩
    cases t with
    | true =>
      refine iteT ⟨_, rfl, _, _, _, .str (nmS nm), rfl, rfl, hca, at_of (j := 0) rfl rfl, _, rfl, D.other, _, .str (ordS (!up)), rfl, rfl, ?_, _, rfl, wa, _, rfl, hw, fun p hp => ⟨small3, fun q hq => ?_⟩⟩
      · cases up with
        | true => exact U.oup
        | false => exact U.odn
      · have s1 := same_new (o := .tup (wd.map V.int).reverse) hp
        have s2 := same_new (o := .tup [.str (nmS nm), .str (ordS (!up)), .ref p]) hq
        refine k _ _ (s1.trans s2) ?_
        have e : (up != true) = (!up) := by cases up <;> rfl
        show Dp _ _ _ (.tuple [.str (nmS nm), .str (ordS (up != true)), wD wd.reverse])
        rw [e]
        refine .tup (SqT.of upd_same) (.cons (.str _) (.cons (.str _) (.cons (dp_w ?_) .nil)))
        have := s2 _ _ (upd_same (H := H) (a := p) (o := HO.tup (wd.map V.int).reverse))
        rw [List.map_reverse]
        exact SqT.of this
    | false =>
      refine iteF ⟨_, rfl, _, _, _, .str (nmS nm), rfl, rfl, hca, at_of (j := 0) rfl rfl, _, rfl, _, rfl, small3, fun q hq => ?_⟩
      have s2 := same_new (o := .tup [.str (nmS nm), .str (ordS up), .ref wa]) hq
      refine k _ _ s2 ?_
      have e : (up != false) = up := by cases up <;> rfl
      show Dp _ _ _ (.tuple [.str (nmS nm), .str (ordS (up != false)), wD wd])
      rw [e]
      exact .tup (SqT.of upd_same) (.cons (.str _) (.cons (.str _) (.cons (dp_w (tupS s2 hw)) .nil)))
end
end K6
set_option Elab.async false
set_option linter.all false
set_option maxRecDepth 100000
set_option maxHeartbeats 4000000
namespace K6
open PySem PySem.Spec PyProof.Rows L2
theorem LevAt.ins {K : PySem.W.Frag} {D : Ads} {H : Hp} {v : V} {lv : Lvl} (h : LevAt K D H v lv) : ∃ a dx fs, v = .ref a ∧ H a = some (.ins D.level dx fs) ∧ Only fs := by
  obtain ⟨a, hv, wv, n, dx, fs, pl, pr, pt, rfl, hI, h1, h2⟩ := h
  exact ⟨a, dx, fs, rfl, hI.ins, hI.only⟩
theorem tup_upd {K : PySem.W.Frag} {H : Hp} {p pf : Addr} {xs : List V} {o u : HO} (h : SqT K H p xs) (hp : H pf = some o) (ho : isTup o = false) : SqT K (upd H pf u) p xs := by
  have key : ∀ o', H p = some o' → isTup o' = true → (upd H pf u) p = some o' := fun o' e t => by
    have hne : p ≠ pf := fun z => by rw [z, hp] at e; cases e; rw [ho] at t; cases t
    rw [upd_ne hne]; exact e
  rcases h with (h | ⟨o', h⟩) | h
  · exact .inl (.inl (key _ h rfl))
  · exact .inl (.inr ⟨o', key _ h rfl⟩)
  · exact .inr h
def rowsJ (lm : Loom) (up : Bool) (lv : Lvl) : Nat → List PRow
  | 0 => []
  | 1 => rowsSide lm up lv false
  | _ => rowsSide lm up lv false ++ rowsSide lm up lv true
theorem small4 : 4 ≤ sizeLine := by decide
theorem rowsF_snoc (lm : Loom) (up : Bool) (ls : List Lev) (l : Lev) : rowsF lm up (ls ++ [l]) = rowsF lm up ls ++ rowsLv lm up (lm.steps, l) := by simp [rowsF]
theorem ite_nx {α : Type} (Good : α → Hp → Prop) {b : Bool} {tb : TS} {D : Ends} {σ : L2.St} {H : Hp} (h : ∀ NX : L2.St → Hp → Prop, (∀ x H2, Good x H2 → NX σ H2) → if b = true then tb { D with nx := NX } σ H else NX σ H) (k : ∀ x H2, Good x H2 → D.nx σ H2) :
    if b = true then tb D σ H else tNext D σ H := h D.nx k
section
variable {P : Program} {w : World} {K : PySem.W.Frag} {mg : Str → Option Value} {base : Heap} {D : Ads}
def spRowsFor (K : PySem.W.Frag) (D : Ads) : Sp := fun vs H Q _ => ∃ (lv : V) (lm : Loom) (up : Bool) (wy : Addr) (ys : List V) (ls : List Lev) (H0 : Hp), vs = [lv, .str (ordS up), .ref wy] ∧ Dp K H lv (loomD lm) ∧ Same H0 H ∧ SqL K H wy ys ∧ LvL K D (fsh H0 H) lm.steps ys ls ∧ ys.length ≤ 32768 ∧
  ∀ H' p xs, Same H H' → H' p = some (.lst xs) → H0 p = none → AllR (RowAt K D) (fsh H0 H') xs (rowsF lm up ls) → Q (.ref p) H'
theorem ok_rowsFor (U : Txu w K mg D) : FnOk P w K mg base CX0 2 (D.d 45).f (D.d 45).fd ["loom", "order", "ways"] (spRowsFor K D) := by
  have T := U.T
  refine T.w45.F.ok scRowsFor (fun vs H Q E h => ?_) (fun cdv A outer s H vs Q E hr h => ?_)
  · obtain ⟨_, _, _, _, _, _, _, rfl, _⟩ := h
    rfl
  · obtain ⟨lv, lm, up, wy, ys, ls, H0, rfl, hlm, hS0, hwy, hL, hsz, k⟩ := h
    refine ⟨_, (pss_cons (ps_set (i := 3) scRowsFor.nd rfl (by first | exact Or.inl rfl | exact Or.inr rfl) (pe_lst pa_nil))
      (pss_cons (ps_for PassesOwn.never rfl (pi_list (pv 2)) (pg_name (i := 4) scRowsFor.nd rfl (by first | exact Or.inl rfl | exact Or.inr rfl)) (pss_cons (ps_if (pt_val (pe_meth (pv 4) T.levelC T.w343.M (ok_levelIsBad T) (hr.mono (by decide)) T.w343.B .nil pass0 (pa_cons (pv 1) pa_nil))) (pss_one (ps_expr (pe_bm PySem.F.plainAttrs_list PySem.F.slot_list_append PySem.F.type_list_append mt_append (pv 3) (pa_cons (pe_tup (pa_cons (pv 4) (pa_cons pe_non (pa_cons pe_non (pa_cons pe_bl pa_nil))))) pa_nil)))) pss_nil)
      (pss_one (ps_for PassesOwn.never rfl (pi_enumT (by rfl) T.enumerate (pa_cons (pe_slice sl_tup (pv 0) (po_some pe_int) po_none) pa_nil)) (pg_tup (by rfl) (pgs_cons (pg_name (i := 5) scRowsFor.nd rfl (by first | exact Or.inl rfl | exact Or.inr rfl)) (pgs_cons (pg_name (i := 6) scRowsFor.nd rfl (by first | exact Or.inl rfl | exact Or.inr rfl)) pgs_nil))) (pss_cons (ps_set (i := 7) scRowsFor.nd rfl (by first | exact Or.inl rfl | exact Or.inr rfl) (pe_meth (pv 4) T.levelC T.w342.M (ok_levelHalf T) (hr.mono (by decide)) T.w342.B .nil pass0 (pa_cons (pv 5) pa_nil)))
      (pss_one (ps_if (pt_cmp (pc_notN (pv 6)) rfl) (pss_one (ps_expr (pe_bm PySem.F.plainAttrs_list PySem.F.slot_list_append PySem.F.type_list_append mt_append (pv 3) (pa_cons (pe_tup (pa_cons (pv 4) (pa_cons (pv 5) (pa_cons (pe_call (ok_nodeOf U) (hr.mono (by decide)) (by rfl) T.w43.m T.w43.F.kp T.w43.B .nil pass0 (pa_cons (pv 6) (pa_cons (pv 1) (pa_cons (pv 7) pa_nil)))) (pa_cons (pe_ix ix_tup (pv 6) pe_int (fun _ _ => rfl)) pa_nil))))) pa_nil)))) (pss_one (ps_if (pt_not (pt_val (pe_call (ok_isSorted T) (hr.mono (by decide)) (by rfl) T.w39.m T.w39.F.kp T.w39.B .nil pass0 (pa_cons (pv 7) (pa_cons (pv 1) pa_nil))))) (pss_one (ps_expr (pe_bm PySem.F.plainAttrs_list PySem.F.slot_list_append PySem.F.type_list_append mt_append (pv 3) (pa_cons (pe_tup (pa_cons (pv 4) (pa_cons pe_non (pa_cons pe_non (pa_cons pe_bl pa_nil))))) pa_nil)))) pss_nil)))))))))
      (pss_one (ps_ret (pv 3))))), ?_⟩
    obtain ⟨la, v0, v1, v2, rfl, hS, k0, k1, k2⟩ := loom_get hlm
    refine ⟨Nat.zero_le _, fun pf hpf => ?_⟩
    have n0 : H0 pf = none := by
      cases q : H0 pf with
      | none => rfl
      | some u => rw [hS0 _ _ q] at hpf; cases hpf
    have sp : Same H (upd H pf (.lst [])) := same_new hpf
    have start : RwS K D H0 pf [] [] (upd H pf (.lst [])) := ⟨hS0.trans sp, n0, upd_same, .nil⟩
    have hLo : ∀ {Hx}, Same H Hx → LvL K D (own [pf] H0 Hx) lm.steps ys ls := fun h => hL.mono ((own_in hpf).trans (own_same h))
    refine ⟨_, rfl, wy, rfl, ⟨_, sp.seq hwy⟩, ?_⟩
    have zl : sizeLine = 16777216 := sizeLine_eq
    refine for_it (walk_list (K := K) (a := wy) (xs := ys)) (fun i σ Hx => ∃ z1 z2 z3 z4 xs, σ = [some (.ref la), some (.str (ordS up)), some (.ref wy), some (.ref pf), z1, z2, z3, z4] ∧ Same H Hx ∧ RwS K D H0 pf (rowsF lm up (ls.take i)) xs Hx) ⟨none, none, none, none, [], rfl, sp, start⟩ (fun i σ Hx _ ⟨_, _, _, _, _, _, h, _⟩ => h.seq hwy) ?_ ?_
    · rintro i x σ Hx Hy hi ⟨z1, z2, z3, z4, xs, rfl, sH, hR⟩ ⟨rfl, ex⟩
      obtain ⟨l, el, hlev⟩ := (hLo sH).2 i x ex
      have hlen : ∀ {rs : List PRow} {xs : List V} {Hz : Hp}, RwS K D H0 pf rs xs Hz → rs.length ≤ 3 * ls.length → xs.length < sizeLine := fun h e => by
        rw [h.d.1]; have := hL.1; omega
      have hti : (ls.take i).length ≤ ls.length := by rw [List.length_take]; omega
      have hil : i < ls.length := (List.getElem?_eq_some_iff.mp el).1
      have hti2 : (ls.take i).length = i := by rw [List.length_take]; omega
      have r0 : (rowsF lm up (ls.take i)).length ≤ 3 * i := by have := rowsF_len lm up (ls.take i); omega
      obtain ⟨a, dx, fs, rfl, hins, honly⟩ := (hlev.mono own_le).ins
      refine ⟨_, rfl, a, dx, fs, rfl, hins, honly _ (by decide), _, rfl, .ref a, up, (lm.steps, l), rfl, hlev.mono own_le, fun H1 s1 => ⟨_, rfl, ?_⟩⟩
      refine ite_nx (fun xs1 H2 => Same H H2 ∧ RwS K D H0 pf (rowsF lm up (ls.take i) ++ if isBad (lm.steps, l) up then [badRow (lm.steps, l)] else []) xs1 H2) (fun NX hNX => ?_) ?_
      · have hR1 := hR.grow s1
        by_cases hb : isBad (lm.steps, l) up
        · rw [decide_eq_true hb]
          refine iteT ?_
          refine ⟨_, rfl, .inl ⟨rfl, _, SqL.of hR1.hf⟩, _, rfl, small4, fun q hq => ?_⟩
          obtain ⟨p1, p2⟩ := hR1.push (r := badRow (lm.steps, l)) (vl := .ref a) (nv := .non) hq (hlev.mono (own_same s1)) .non
          refine ⟨pf, xs, _, rfl, rfl, p1, hlen hR1 (by omega), hNX (xs ++ [.ref q]) _ ⟨?_, ?_⟩⟩
          · exact same_upd_new ((sH.trans s1).trans (same_new hq)) hpf
          · rw [if_pos hb]; exact p2
        · rw [decide_eq_false hb]
          refine iteF (hNX xs _ ⟨sH.trans s1, ?_⟩)
          rw [if_neg hb, List.append_nil]; exact hR1
      rintro xs1 H2 ⟨sH2, hR2⟩
      have r1 : (rowsF lm up (ls.take i) ++ if isBad (lm.steps, l) up then [badRow (lm.steps, l)] else []).length ≤ 3 * i + 1 := by
        rw [List.length_append]
        have : (if isBad (lm.steps, l) up then [badRow (lm.steps, l)] else []).length ≤ 1 := by split <;> simp
        omega
      generalize hrs1 : (rowsF lm up (ls.take i) ++ if isBad (lm.steps, l) up then [badRow (lm.steps, l)] else []) = rs1 at hR2 r1
      have hlev2 : LevAt K D (own [pf] H0 H2) (.ref a) (lm.steps, l) := by
        obtain ⟨l', el', q⟩ := (hLo sH2).2 i _ ex
        rw [el] at el'; cases el'; exact q
      -- for side, call in enumerate(loom[1:])
      refine ⟨_, rfl, _, rfl, la, _, rfl, tupS sH2 hS, ?_, fun p hp => ?_⟩
      · show ¬ (HT.sIx 3 0 (some 1) = 0 ∧ HT.sIx 3 3 none = 3)
        decide
      have s3 := same_new (o := .tup (cutV [v0, v1, v2] (some 1) none)) hp
      refine ⟨p, [v1, v2], rfl, SqT.of upd_same, ?_⟩
      refine for_it (walk_enumT (K := K) (a := p) (xs := [v1, v2])) (fun j σ Hx => ∃ z2 z3 z4 xs, σ = [some (.ref la), some (.str (ordS up)), some (.ref wy), some (.ref pf), some (.ref a), z2, z3, z4] ∧ Same H Hx ∧ SqT K Hx p [v1, v2] ∧
        RwS K D H0 pf (rs1 ++ rowsJ lm up (lm.steps, l) j) xs Hx) ⟨_, _, _, xs1, rfl, sH2.trans s3, SqT.of upd_same, by rw [rowsJ, List.append_nil]; exact hR2.grow s3⟩ (fun j σ Hx _ ⟨_, _, _, _, _, _, h, _⟩ => h) ?_ ?_
      · rintro j x σ Hx3 Hy3 hj ⟨z2, z3, z4, xs3, rfl, sH3, hp3, hR3⟩ ⟨Tt, x1, y1, rfl, hT, rfl, e1, e2⟩
        cases Option.some.inj e1
        have sT := same_new (o := .tup [.int (j : Nat), y1]) hT
        refine ⟨Tt, _, rfl, SqT.of upd_same, rfl, _, _, rfl, _, _, rfl, rfl, ?_⟩
        have hlev3 : LevAt K D (own [pf] H0 Hx3) (.ref a) (lm.steps, l) := by
          obtain ⟨l', el', q⟩ := (hLo sH3).2 i _ ex
          rw [el] at el'; cases el'; exact q
        have key : ∃ (sd : Bool) (rs3 : List PRow), V.int (j : Nat) = .int (if sd then 1 else 0) ∧ Dp K H y1 (callD (lm.call sd)) ∧ RwS K D H0 pf (rs1 ++ rs3) xs3 Hx3 ∧ (rs1 ++ rs3).length ≤ 3 * i + 2 ∧
            ∀ xs5 H5, Same H H5 → SqT K H5 p [v1, v2] → RwS K D H0 pf (rs1 ++ (rs3 ++ rowsSide lm up (lm.steps, l) sd)) xs5 H5 → RwS K D H0 pf (rs1 ++ rowsJ lm up (lm.steps, l) (j + 1)) xs5 H5 := by
          have hj2 : j = 0 ∨ j = 1 := by have : j < 2 := hj; omega
          rcases hj2 with rfl | rfl
          · have e2 : [v1, v2][0]? = some y1 := e2
            cases Option.some.inj e2
            exact ⟨false, [], rfl, k1, hR3, by rw [List.append_nil]; omega, fun xs5 H5 _ _ h => h⟩
          · have e2 : [v1, v2][1]? = some y1 := e2
            cases Option.some.inj e2
            exact ⟨true, rowsSide lm up (lm.steps, l) false, rfl, k2, hR3, by rw [List.length_append]; have := rowsSide_len lm up (lm.steps, l) false; omega, fun xs5 H5 _ _ h => h⟩
        obtain ⟨sd, rs3, ej, hcall, hR4, rl, fin⟩ := key
        obtain ⟨a', dx', fs', ea', hins', honly'⟩ := ((hlev3.mono (own_same sT)).mono own_le).ins
        cases ea'
        refine ⟨_, rfl, a, dx', fs', rfl, hins', honly' _ (by decide), _, rfl, .ref a, sd, (lm.steps, l), by rw [ej]; rfl, (hlev3.mono (own_same sT)).mono own_le, fun H5 wv s5 hwv => ?_⟩
        obtain ⟨wa, rfl, hwa⟩ := get_w hwv
        have sT5 := sT.trans s5
        have hR5 := hR4.grow sT5
        have sH5 := sH3.trans sT5
        have hp5 := tupS sT5 hp3
        have hlev5 := hlev3.mono (own_same (H := H0) (ls := [pf]) sT5)
        cases hc : lm.call sd with
        | some c =>
          rw [hc] at hcall
          obtain ⟨ca, rfl, hca⟩ := call_get hcall
          refine ⟨_, rfl, true, rfl, iteT ?_⟩
          refine ⟨_, rfl, .inl ⟨rfl, _, SqL.of hR5.hf⟩, _, rfl, _, rfl, _, rfl, _, rfl, _, rfl, _, wa, c, up, halfW (lm.steps, l) sd, rfl, hcall.mono sH5, hwa, fun H6 nv s6 hnv => ?_⟩
          refine ⟨_, rfl, _, _, _, .bl c.2, rfl, rfl, tupS (sH5.trans s6) hca, at_of (j := 1) rfl rfl, small4, fun q hq => ?_⟩
          have hR6 := hR5.grow s6
          obtain ⟨p1, p2⟩ := hR6.push (r := ⟨(lm.steps, l), some sd, some (child c up (halfW (lm.steps, l) sd)), c.2⟩) (vl := .ref a) (nv := nv) hq (hlev5.mono (own_same s6)) hnv
          have esd : V.int (j : Nat) = sideV (some sd) := by rw [ej]; cases sd <;> rfl
          rw [esd]
          refine ⟨pf, xs3, _, rfl, rfl, p1, hlen hR6 (by omega), ?_⟩
          have sN : Same H (upd (upd H6 q (.tup [.ref a, sideV (some sd), nv, .bl c.2])) pf (.lst (xs3 ++ [.ref q]))) := same_upd_new ((sH5.trans s6).trans (same_new hq)) hpf
          have tN : SqT K (upd (upd H6 q (.tup [.ref a, sideV (some sd), nv, .bl c.2])) pf (.lst (xs3 ++ [.ref q]))) p [v1, v2] := tup_upd (tupS (s6.trans (same_new hq)) hp5) p1 rfl
          refine ⟨_, _, _, xs3 ++ [.ref q], rfl, sN, tN, fin _ _ sN tN ?_⟩
          have er : rowsSide lm up (lm.steps, l) sd = [⟨(lm.steps, l), some sd, some (child c up (halfW (lm.steps, l) sd)), c.2⟩] := by unfold rowsSide; rw [hc]
          rw [er, ← List.append_assoc]; exact p2
        | none =>
          rw [hc] at hcall
          have ev := Dp.isNone hcall
          subst ev
          refine ⟨_, rfl, false, rfl, iteF ?_⟩
          have er : rowsSide lm up (lm.steps, l) sd = if srt up (halfW (lm.steps, l) sd) then [] else [badRow (lm.steps, l)] := by unfold rowsSide; rw [hc]
          refine ⟨_, rfl, _, rfl, wa, _, up, rfl, .inr hwa, fun H6 s6 => ⟨_, rfl, ?_⟩⟩
          have hR6 := hR5.grow s6
          by_cases hs : srt up (halfW (lm.steps, l) sd)
          · rw [decide_eq_true hs]
            refine iteF ⟨_, _, _, xs3, rfl, sH5.trans s6, tupS s6 hp5, fin _ _ (sH5.trans s6) (tupS s6 hp5) ?_⟩
            rw [er, if_pos hs, List.append_nil]; exact hR6
          · rw [decide_eq_false hs]
            refine iteT ?_
            refine ⟨_, rfl, .inl ⟨rfl, _, SqL.of hR6.hf⟩, _, rfl, small4, fun q hq => ?_⟩
            obtain ⟨p1, p2⟩ := hR6.push (r := badRow (lm.steps, l)) (vl := .ref a) (nv := .non) hq (hlev5.mono (own_same s6)) .non
            have sN : Same H (upd (upd H6 q (.tup [.ref a, .non, .non, .bl false])) pf (.lst (xs3 ++ [.ref q]))) := same_upd_new ((sH5.trans s6).trans (same_new hq)) hpf
            have tN : SqT K (upd (upd H6 q (.tup [.ref a, .non, .non, .bl false])) pf (.lst (xs3 ++ [.ref q]))) p [v1, v2] := tup_upd (tupS (s6.trans (same_new hq)) hp5) p1 rfl
            refine ⟨pf, xs3, _, rfl, rfl, p1, hlen hR6 (by omega), ?_⟩
            refine ⟨_, _, _, xs3 ++ [.ref q], rfl, sN, tN, fin _ _ sN tN ?_⟩
            rw [er, if_neg hs, ← List.append_assoc]; exact p2
      · rintro σ Hx3 ⟨z2, z3, z4, xs3, rfl, sH3, hp3, hR3⟩
        refine ⟨_, _, _, _, xs3, rfl, sH3, ?_⟩
        have et : ls.take (i + 1) = ls.take i ++ [l] := by rw [List.take_add_one, el]; rfl
        rw [et, rowsF_snoc]
        unfold rowsLv
        rw [← List.append_assoc, hrs1]
        exact hR3
    · rintro σ Hx ⟨z1, z2, z3, z4, xs, rfl, sH, hR⟩
      have e : ls.take ys.length = ls := by rw [hL.1, List.take_length]
      rw [e] at hR
      exact ⟨_, rfl, k _ pf xs sH hR.hf n0 (hR.d.mono (fun _ _ _ _ s h => h.mono s) own_end)⟩
end
end K6
set_option Elab.async false
set_option linter.all false
set_option maxRecDepth 100000
set_option maxHeartbeats 4000000
namespace K6
open PySem PySem.Spec PyProof.Rows L2
theorem node_get {K : PySem.W.Frag} {H : Hp} {v : V} {n : Node} (h : Dp K H v (nodeD n)) : ∃ a wa, v = .ref a ∧ SqT K H a [.str (nmS n.nm), .str (ordS n.up), .ref wa] ∧ SqT K H wa (n.w.map V.int) := by
  obtain ⟨a, xs, rfl, h1, h2⟩ := h.tuple
  cases h2 with
  | cons k0 h2 =>
    cases h2 with
    | cons k1 h2 =>
      cases h2 with
      | cons k2 h2 =>
        cases h2
        cases k0
        cases k1
        obtain ⟨wa, rfl, hw⟩ := get_w k2
        exact ⟨a, wa, rfl, h1, hw⟩
section
variable {P : Program} {w : World} {K : PySem.W.Frag} {mg : Str → Option Value} {base : Heap} {D : Ads}
def spStepsOf (K : PySem.W.Frag) (D : Ads) : Sp := fun vs H Q _ => ∃ (v nv : V) (L : Looms) (n : Node), vs = [v, nv] ∧ LoomsAt K H v L ∧ LOk L ∧ Dp K H nv (nodeD n) ∧ n.nm < L.length ∧ 0 < n.w.length ∧ n.w.length ≤ 4 ∧
  ∀ (H' : Hp) (p : Addr) (xs : List V) (rs : List PRow), Same H H' → H' p = some (.lst xs) → H p = none → AllR (RowAt K D) (fsh H H') xs rs → (∀ r, r ∈ rs ↔ RowOf L n r) → rs.length ≤ 1536 → Q (.ref p) H'
theorem ok_stepsOf (U : Txu w K mg D) : FnOk P w K mg base CX0 9 (D.d 44).f (D.d 44).fd ["looms", "node"] (spStepsOf K D) := by
  have T := U.T
  refine T.w44.F.ok scStepsOf (fun vs H Q E h => ?_) (fun cdv A outer s H vs Q E hr h => ?_)
  · obtain ⟨_, _, _, _, rfl, _⟩ := h
    rfl
  · obtain ⟨v, nv, L, n, rfl, hLm, ok, hn, hnm, h0, h4, k⟩ := h
    refine ⟨_, (pss_cons (ps_asg (pv 1) (pg_tup (by rfl) (pgs_cons (pg_name (i := 2) scStepsOf.nd rfl (by first | exact Or.inl rfl | exact Or.inr rfl)) (pgs_cons (pg_name (i := 3) scStepsOf.nd rfl (by first | exact Or.inl rfl | exact Or.inr rfl)) (pgs_cons (pg_name (i := 4) scStepsOf.nd rfl (by first | exact Or.inl rfl | exact Or.inr rfl)) pgs_nil)))))
      (pss_one (ps_ret (pe_call (ok_rowsFor U) (hr.mono (by decide)) (by rfl) T.w45.m T.w45.F.kp T.w45.B .nil pass0 (pa_cons (pe_dget (hu_of hr) (pv 0) (pv 2) (fun _ _ => rfl)) (pa_cons (pv 3) (pa_cons (pe_listG (k := 5) (pgen_call (ok_levels T) (hr.mono (by decide)) (by rfl) T.w35.m T.w35.F.kp T.w35.B .nil (pa_cons (pe_ix ix_tup (pe_dget (hu_of hr) (pv 0) (pv 2) (fun _ _ => rfl)) pe_int (fun _ _ => rfl)) (pa_cons (pv 4) pa_nil))) passF noStopF (hr.mono (by decide)) (by rfl) T.list boot_list) pa_nil))))))), ?_⟩
    obtain ⟨na, wa, rfl, hna, hwa⟩ := node_get hn
    obtain ⟨la, lv, rfl, hg, hlv⟩ := looms_get hLm ok.three hnm
    obtain ⟨ll, v0, v1, v2, rfl, hll, k0, k1, k2⟩ := loom_get hlv
    refine ⟨_, rfl, na, _, rfl, hna, rfl, _, _, rfl, _, _, rfl, _, _, rfl, rfl, ?_⟩
    refine ⟨_, rfl, _, rfl, la, _, rfl, hg, _, rfl, ?_⟩
    refine ⟨_, rfl, _, rfl, la, _, rfl, hg, ll, _, _, v0, rfl, rfl, hll, at_of (j := 0) rfl rfl, _, rfl, v0, wa, (L.at n.nm).steps, n.w, rfl, k0, steps_le ok _, hwa, h0, h4, fun ys H1 ls s1 hL hmem hsz p hp => ?_⟩
    have s2 := same_new (o := .lst ys) hp
    refine ⟨.ref ll, L.at n.nm, n.up, p, ys, ls, H, rfl, hlv.mono (s1.trans s2), s1.trans s2, SqL.of upd_same, hL.mono (fsh_mono s2), Nat.le_trans hsz (by decide), fun H' q xs s3 hq n0 hr => ?_⟩
    refine k H' q xs _ ((s1.trans s2).trans s3) hq n0 hr (fun r => mem_rowsF hmem) ?_
    have := rowsF_len (L.at n.nm) n.up ls
    have e := hL.1
    omega
end
end K6
set_option Elab.async false
set_option linter.all false
set_option maxRecDepth 100000
set_option maxHeartbeats 4000000
namespace K6
open PySem PySem.Spec PyProof.Rows L2
theorem zip_ints (f : Int → Int → Int × Int) (l r : List Int) (i : Nat) : (List.zipWith f l r)[i]? = (match l[i]?, r[i]? with | some a, some b => some (f a b) | _, _ => none) := by
  rw [List.getElem?_zipWith]
  cases l[i]? <;> cases r[i]? <;> rfl
theorem flipL_join {K : PySem.W.Frag} {σ : L2.St} {H : Hp} {Q : VK} {te : TE} {r : List Int} {b : Bool} {ra : Addr} (hr : SqL K H ra (r.map V.int)) (he : ∀ G : VK, G (.ref ra) H → te σ H G)
    (k : ∀ rr H1, Same H H1 → SqL K H1 rr ((flipIf b r).map V.int) → Q (.ref rr) H1) : if b = true then tRevL K te σ H Q else te σ H Q := by
  cases b with
  | true =>
    refine iteT (he _ ⟨ra, _, rfl, hr, fun p hp => k p _ (same_new hp) ?_⟩)
    show SqL K _ p (r.reverse.map V.int)
    rw [List.map_reverse]
    exact SqL.of upd_same
  | false => exact iteF (he _ (k ra H (Same.refl _) hr))
section
variable {P : Program} {w : World} {K : PySem.W.Frag} {mg : Str → Option Value} {base : Heap} {D : Ads}
def spStepped (K : PySem.W.Frag) : Sp := fun vs H Q _ => ∃ (sv : V) (st : Stp) (la ra : Addr) (l r : List Int), vs = [sv, .ref la, .ref ra] ∧ Dp K H sv (stpD st) ∧ SqL K H la (l.map V.int) ∧ SqL K H ra (r.map V.int) ∧ l.length = r.length ∧ l.length ≤ 4194304 ∧
  ∀ H' p l' r', Same H H' → SqT K H' p [.ref l', .ref r'] → SqL K H' l' ((stepR st (l, r)).1.map V.int) → SqL K H' r' ((stepR st (l, r)).2.map V.int) → Q (.ref p) H'
theorem ok_stepped (T : Txt K mg D) : FnOk P w K mg base CX0 2 (D.d 25).f (D.d 25).fd ["step", "left", "right"] (spStepped K) := by
  refine T.w25.F.ok scStepped (fun vs H Q E h => ?_) (fun cdv A outer s H vs Q E hr h => ?_)
  · obtain ⟨_, _, _, _, _, _, rfl, _⟩ := h
    rfl
  · obtain ⟨sv, st, la, ra, l, r, rfl, hs, hl, hr', hlr, hz, k⟩ := h
    refine ⟨_, (pss_cons (ps_match (pe_ix ix_tup (pv 0) pe_int (fun _ _ => rfl)) (pm_val pe_str (pss_one (ps_ret (pe_tup (pa_cons (pv 2) (pa_cons (pv 1) pa_nil))))) (pm_val pe_str (pss_cons (ps_if (pt_cmpR op_eq (pe_ix ix_tup (pv 0) pe_int (fun _ _ => rfl)) pe_str (nomark _)) (pss_one (ps_ret (pe_tup (pa_cons (pe_revL (pv 2)) (pa_cons (pe_revL (pv 1)) pa_nil))))) pss_nil)
      (pss_one (ps_ret (pe_tup (pa_cons (pe_ifExp (pt_cmpR op_ne (pe_ix ix_tup (pv 0) pe_int (fun _ _ => rfl)) pe_str (nomark _)) (pe_revL (pv 1)) (pv 1)) (pa_cons (pe_ifExp (pt_cmpR op_ne (pe_ix ix_tup (pv 0) pe_int (fun _ _ => rfl)) pe_str (nomark _)) (pe_revL (pv 2)) (pv 2)) pa_nil)))))) pm_nil)))
      (pss_cons (ps_set (i := 3) scStepped.nd rfl (by first | exact Or.inl rfl | exact Or.inr rfl) (pe_ifExp (pt_cmpR op_eq (pe_ix ix_tup (pv 0) pe_int (fun _ _ => rfl)) pe_str (nomark _)) (pe_revL (pv 2)) (pv 2)))
      (pss_cons (ps_setLc (i := 4) (own := [("one", 7), ("two", 8)]) (by rfl) scStepped.nd rfl rfl (sw_true rfl rfl rfl (by decide +kernel)) (pi_zip (by rfl) T.zip (pa_cons (pv 1) (pa_cons (pv 3) pa_nil))) (blkOk_by (own := [("one", 7), ("two", 8)]) (N := ["step", "left", "right", "other", "pairs", "first", "second", "one", "two", "pair"]) (sc := defScope sStepped) (by decide +kernel)) (fun _ _ _ _ _ => (pg_tupK (n := 2) K (by rfl) (by rfl) (pgs_cons (pg_name (i := 7) scStepped.nd rfl (by first | exact Or.inl rfl | exact Or.inr rfl)) (pgs_cons (pg_name (i := 8) scStepped.nd rfl (by first | exact Or.inl rfl | exact Or.inr rfl)) pgs_nil)))) (fun _ _ _ _ _ => pts_nil) (fun _ _ _ _ _ => (pe_call (ok_orderPair T) (hr.mono (by decide)) (by rfl) T.w24.m T.w24.F.kp T.w24.B .nil pass0 (pa_cons (pv 7) (pa_cons (pv 8) (pa_cons (pe_ix (ix_tupK K (by rfl)) (pv 0) pe_int (fun _ _ => rfl)) pa_nil))))))
      (pss_cons (ps_par (i := 5) (j := 6) (by rfl) scStepped.nd rfl rfl (by decide) rfl rfl (pa_cons (pe_lc (own := [("pair", 9)]) (by rfl) scStepped.nd (pi_list (pv 4)) (blkOk_by (own := [("pair", 9)]) (N := ["step", "left", "right", "other", "pairs", "first", "second", "one", "two", "pair"]) (sc := defScope sStepped) (by decide +kernel)) (fun _ _ _ _ _ => (pg_name (i := 9) scStepped.nd rfl (by first | exact Or.inl rfl | exact Or.inr rfl))) (fun _ _ _ _ _ => pts_nil) (fun _ _ _ _ _ => (pe_ix (ix_tupK K (by rfl)) (pv 9) pe_int (fun _ _ => rfl)))) (pa_cons (pe_lc (own := [("pair", 9)]) (by rfl) scStepped.nd (pi_list (pv 4)) (blkOk_by (own := [("pair", 9)]) (N := ["step", "left", "right", "other", "pairs", "first", "second", "one", "two", "pair"]) (sc := defScope sStepped) (by decide +kernel)) (fun _ _ _ _ _ => (pg_name (i := 9) scStepped.nd rfl (by first | exact Or.inl rfl | exact Or.inr rfl))) (fun _ _ _ _ _ => pts_nil) (fun _ _ _ _ _ => (pe_ix (ix_tupK K (by rfl)) (pv 9) pe_int (fun _ _ => rfl)))) pa_nil)) (by rfl))
      (pss_one (ps_ret (pe_tup (pa_cons (pv 5) (pa_cons (pe_ifExp (pt_cmpR op_eq (pe_ix ix_tup (pv 0) pe_int (fun _ _ => rfl)) pe_str (nomark _)) (pe_revL (pv 6)) (pv 6)) pa_nil))))))))), ?_⟩
    obtain ⟨c, rfl, hc⟩ := stp_get hs
    have lz : l.length ≤ sizeLine := Nat.le_trans hz (by decide)
    cases st with
    | swap =>
      refine ⟨_, rfl, _, _, _, _, rfl, rfl, hc, at_of (j := 0) rfl rfl, ?_⟩
      refine ⟨rfl, ?_⟩
      rw [decide_eq_true (by decide +kernel)]
      refine iteT ⟨_, rfl, _, rfl, small2, fun q hq => ?_⟩
      exact k _ q ra la (same_new hq) (SqT.of upd_same) ((same_new hq).seq hr') ((same_new hq).seq hl)
    | flip z =>
      refine ⟨_, rfl, _, _, _, .str "flip", rfl, rfl, hc, at_of (j := 0) rfl rfl, ?_⟩
      refine ⟨rfl, ?_⟩
      rw [decide_eq_false (by decide +kernel)]
      refine iteF ⟨rfl, ?_⟩
      rw [decide_eq_true (by decide +kernel)]
      refine iteT ?_
      refine ⟨_, rfl, _, _, _, .str (sdS z), rfl, rfl, hc, at_of (j := 1) rfl rfl, rfl, ?_⟩
      have rv : ∀ {m : List Int}, (m.map V.int).reverse = m.reverse.map V.int := fun {m} => by rw [List.map_reverse]
      by_cases hz : z = .all
      · subst hz
        refine ⟨true, by decide +kernel, iteT ?_⟩
        refine ⟨_, rfl, ra, _, rfl, hr', fun p hp => ?_⟩
        have s1 := same_new (o := .lst (r.map V.int).reverse) hp
        refine ⟨_, rfl, la, _, rfl, s1.seq hl, fun q hq => ⟨small2, fun t ht => ?_⟩⟩
        have s2 := same_new (o := .lst (l.map V.int).reverse) hq
        have s3 := same_new (o := .tup [.ref p, .ref q]) ht
        refine k _ t p q ((s1.trans s2).trans s3) (SqT.of upd_same) ?_ ?_
        · show SqL K _ p (r.reverse.map V.int)
          rw [← rv]; exact SqL.of (s3 _ _ (s2 _ _ upd_same))
        · show SqL K _ q (l.reverse.map V.int)
          rw [← rv]; exact SqL.of (s3 _ _ upd_same)
      · have hf : decide (V.str (sdS z) = V.str "all") = false := by cases z <;> first | exact absurd rfl hz | decide +kernel
        refine ⟨false, by rw [hf], iteF ?_⟩
        refine ⟨_, rfl, _, _, _, .str (sdS z), rfl, rfl, hc, at_of (j := 1) rfl rfl, rfl, ?_⟩
        cases z with
        | all => exact absurd rfl hz
        | left =>
          refine ⟨true, by decide +kernel, iteT ⟨_, rfl, la, _, rfl, hl, fun p hp => ?_⟩⟩
          have s1 := same_new (o := .lst (l.map V.int).reverse) hp
          refine ⟨_, rfl, _, _, _, .str "left", rfl, rfl, tupS s1 hc, at_of (j := 1) rfl rfl, rfl, false, by decide +kernel, iteF ⟨_, rfl, small2, fun t ht => ?_⟩⟩
          have s3 := same_new (o := .tup [.ref p, .ref ra]) ht
          refine k _ t p ra (s1.trans s3) (SqT.of upd_same) ?_ ((s1.trans s3).seq hr')
          show SqL K _ p (l.reverse.map V.int)
          rw [← rv]; exact SqL.of (s3 _ _ upd_same)
        | right =>
          refine ⟨false, by decide +kernel, iteF ⟨_, rfl, ?_⟩⟩
          refine ⟨_, rfl, _, _, _, .str "right", rfl, rfl, hc, at_of (j := 1) rfl rfl, rfl, true, by decide +kernel, iteT ⟨_, rfl, ra, _, rfl, hr', fun q hq => ⟨small2, fun t ht => ?_⟩⟩⟩
          have s2 := same_new (o := .lst (r.map V.int).reverse) hq
          have s3 := same_new (o := .tup [.ref la, .ref q]) ht
          refine k _ t la q (s2.trans s3) (SqT.of upd_same) ((s2.trans s3).seq hl) ?_
          show SqL K _ q (r.reverse.map V.int)
          rw [← rv]; exact SqL.of (s3 _ _ upd_same)
        | both =>
          refine ⟨true, by decide +kernel, iteT ⟨_, rfl, la, _, rfl, hl, fun p hp => ?_⟩⟩
          have s1 := same_new (o := .lst (l.map V.int).reverse) hp
          refine ⟨_, rfl, _, _, _, .str "both", rfl, rfl, tupS s1 hc, at_of (j := 1) rfl rfl, rfl, true, by decide +kernel, iteT ⟨_, rfl, ra, _, rfl, s1.seq hr', fun q hq => ⟨small2, fun t ht => ?_⟩⟩⟩
          have s2 := same_new (o := .lst (r.map V.int).reverse) hq
          have s3 := same_new (o := .tup [.ref p, .ref q]) ht
          refine k _ t p q ((s1.trans s2).trans s3) (SqT.of upd_same) ?_ ?_
          · show SqL K _ p (l.reverse.map V.int)
            rw [← rv]; exact SqL.of (s3 _ _ (s2 _ _ upd_same))
          · show SqL K _ q (r.reverse.map V.int)
            rw [← rv]; exact SqL.of (s3 _ _ upd_same)
    | cmp x up =>
      have rv : ∀ {m : List Int}, (m.map V.int).reverse = m.reverse.map V.int := fun {m} => by rw [List.map_reverse]
      refine ⟨_, rfl, _, _, _, .str (kindS x), rfl, rfl, hc, at_of (j := 0) rfl rfl, ?_⟩
      refine ⟨rfl, ?_⟩
      rw [decide_eq_false (by cases x <;> decide +kernel)]
      refine iteF ⟨rfl, ?_⟩
      rw [decide_eq_false (by cases x <;> decide +kernel)]
      refine iteF ?_
      refine ⟨_, rfl, _, _, _, .str (kindS x), rfl, rfl, hc, at_of (j := 0) rfl rfl, rfl, !x, by cases x <;> decide +kernel, ?_⟩
      refine flipL_join hr' (fun G q => ⟨_, rfl, q⟩) fun oa H1 s1 ho => ?_
      have hl1 := s1.seq hl
      refine ⟨_, rfl, _, rfl, la, oa, _, _, rfl, hl1, ho, fun Dd hDd => ?_⟩
      have olen : (flipIf (!x) r).length = l.length := by rw [length_flipIf]; exact hlr.symm
      refine lc_map (walk_zip (n := l.length) (xs := l.map V.int) (ys := (flipIf (!x) r).map V.int) (by simp [olen])) (fun i y Hx => ∃ c p, (List.zipWith (ordP up) l (flipIf (!x) r))[i]? = some c ∧ y = .ref p ∧ Hx p = some (.tup [.int c.1, .int c.2])) hDd lz (fun i y Ha Hb s1 ⟨c, p, q1, q2, q3⟩ => ⟨c, p, q1, q2, s1 _ _ q3⟩) (fun H' s2 => ⟨s2.seq hl1, s2.seq ho⟩) ?_ ?_
      · rintro i x' Ha Hb Kk hi s2 ⟨Tt, x1, y1, rfl, hT, rfl, e1, e2⟩ kk
        have e1 : (l.map V.int)[i]? = some x1 := e1
        have e2 : ((flipIf (!x) r).map V.int)[i]? = some y1 := e2
        rw [List.getElem?_map] at e1 e2
        obtain ⟨a1, f1, rfl⟩ := Option.map_eq_some_iff.mp e1
        obtain ⟨a2, f2, rfl⟩ := Option.map_eq_some_iff.mp e2
        refine ⟨Tt, _, rfl, SqT.of upd_same, rfl, _, _, rfl, _, _, rfl, rfl, rfl, ?_⟩
        have sT : Same Ha (upd Ha Tt (.tup [.int a1, .int a2])) := same_new hT
        refine ⟨_, rfl, _, rfl, _, rfl, _, _, _, .str (ordS up), rfl, rfl, tupS ((s1.trans s2).trans sT) hc, at_of (j := 1) rfl rfl, a1, a2, up, rfl, fun H4 p4 s4 h4 => ?_⟩
        exact kk _ _ (sT.trans s4) ⟨ordP up a1 a2, p4, by rw [zip_ints, f1, f2], rfl, fsh_get (sT.trans s4) h4⟩
      intro H2 ys s2 e2 l2 r2
      have ysz : ys.length ≤ sizeLine := by rw [l2]; exact lz
      have get : ∀ (i : Nat) (y : V), ys[i]? = some y → ∃ c p, (List.zipWith (ordP up) l (flipIf (!x) r))[i]? = some c ∧ y = .ref p ∧ H2 p = some (.tup [.int c.1, .int c.2]) := fun i y e => by
        obtain ⟨c, p, q1, q2, q3⟩ := r2 i y e
        exact ⟨c, p, q1, q2, own_tup q3⟩
      have up2 : ∀ {H3 : Hp}, Same H2 H3 → SqL K H3 Dd ys := fun {H3} h => SqL.of (h _ _ e2)
      refine ⟨_, rfl, Dd, rfl, ⟨_, up2 (Same.refl _)⟩, fun D1 hD1 => ?_⟩
      refine lc_map (walk_list (K := K) (a := Dd) (xs := ys)) (fun i y _ => ∃ c, (List.zipWith (ordP up) l (flipIf (!x) r))[i]? = some c ∧ y = .int c.1) hD1 ysz (fun i y Ha Hb s1 h => h) (fun H3 s3 => up2 s3) ?_ ?_
      · rintro i x' Ha Hb Kk hi s3 ⟨rfl, ex⟩ kk
        obtain ⟨c', p, q1, rfl, q3⟩ := get i x' ex
        exact ⟨rfl, _, rfl, _, _, _, .int _, rfl, rfl, SqT.of (s3 _ _ q3), at_of (j := 0) rfl rfl, kk _ _ (Same.refl _) ⟨c', q1, rfl⟩⟩
      intro H3 us s3 e3 l3 r3
      refine ⟨_, rfl, Dd, rfl, ⟨_, up2 s3⟩, fun D2 hD2 => ?_⟩
      refine lc_map (walk_list (K := K) (a := Dd) (xs := ys)) (fun i y _ => ∃ c, (List.zipWith (ordP up) l (flipIf (!x) r))[i]? = some c ∧ y = .int c.2) hD2 ysz (fun i y Ha Hb s1 h => h) (fun H4 s4 => up2 (s3.trans s4)) ?_ ?_
      · rintro i x' Ha Hb Kk hi s4 ⟨rfl, ex⟩ kk
        obtain ⟨c', p, q1, rfl, q3⟩ := get i x' ex
        exact ⟨rfl, _, rfl, _, _, _, .int _, rfl, rfl, SqT.of ((s3.trans s4) _ _ q3), at_of (j := 1) rfl rfl, kk _ _ (Same.refl _) ⟨c', q1, rfl⟩⟩
      intro H4 ws s4 e4 l4 r4
      have zlen : (List.zipWith (ordP up) l (flipIf (!x) r)).length = l.length := by rw [List.length_zipWith, olen]; omega
      have eus : us = ((List.zipWith (ordP up) l (flipIf (!x) r)).map Prod.fst).map V.int := by
        refine List.ext_getElem? fun i => ?_
        rw [List.map_map, List.getElem?_map]
        cases q : us[i]? with
        | some y =>
          obtain ⟨c', q1, rfl⟩ := r3 i y q
          rw [q1]; rfl
        | none =>
          rw [List.getElem?_eq_none_iff] at q
          rw [List.getElem?_eq_none (by rw [l3, l2] at q; rw [zlen]; exact q)]; rfl
      have ews : ws = ((List.zipWith (ordP up) l (flipIf (!x) r)).map Prod.snd).map V.int := by
        refine List.ext_getElem? fun i => ?_
        rw [List.map_map, List.getElem?_map]
        cases q : ws[i]? with
        | some y =>
          obtain ⟨c', q1, rfl⟩ := r4 i y q
          rw [q1]; rfl
        | none =>
          rw [List.getElem?_eq_none_iff] at q
          rw [List.getElem?_eq_none (by rw [l4, l2] at q; rw [zlen]; exact q)]; rfl
      have d1 := s4 _ _ e3
      rw [eus] at d1
      rw [ews] at e4
      refine ⟨_, _, rfl, ?_⟩
      have sA := ((s1.trans s2).trans s3).trans s4
      refine ⟨_, rfl, ?_⟩
      refine ⟨_, rfl, _, _, _, .str (kindS x), rfl, rfl, tupS sA hc, at_of (j := 0) rfl rfl, rfl, !x, by cases x <;> decide +kernel, ?_⟩
      refine flipL_join (SqL.of e4) (fun G q => ⟨_, rfl, q⟩) fun fa H5 s5 hf => ⟨small2, fun t ht => ?_⟩
      have s6 := same_new (o := .tup [.ref D1, .ref fa]) ht
      exact k _ t D1 fa ((sA.trans s5).trans s6) (SqT.of upd_same) (SqL.of ((s5.trans s6) _ _ d1)) (s6.seq hf)
end
end K6
set_option Elab.async false
set_option linter.all false
set_option maxRecDepth 100000
set_option maxHeartbeats 4000000
namespace K6
open PySem PySem.Spec PyProof.Rows L2
theorem cut_takeL {l : List Int} {v : Int} (k : Nat) (h : v = (k : Int)) : cutV (l.map V.int) none (some v) = (l.take k).map V.int := by
  rw [cut_take k h, List.map_take]
theorem cut_dropL {l : List Int} {v : Int} (k : Nat) (h : v = (k : Int)) : cutV (l.map V.int) (some v) none = (l.drop k).map V.int := by
  rw [cut_drop k h, List.map_drop]
theorem slL_of {K : PySem.W.Frag} {H : Hp} {Q : VK} {a : Addr} {xs ys : List V} {lo hi : Option Int} (h : SqL K H a xs) (e : cutV xs lo hi = ys) (k : ∀ p H1, Same H H1 → SqL K H1 p ys → Q (.ref p) H1) : rSlL K (.ref a) lo hi H Q := by
  subst e
  exact ⟨a, xs, rfl, h, fun p hp => k p _ (same_new hp) (SqL.of upd_same)⟩
theorem pow21 {k : Nat} (h : k ≤ 21) : 2 ^ k ≤ 2097152 := Nat.le_trans (Nat.pow_le_pow_right (by decide) h) (by decide)
section
variable {P : Program} {w : World} {K : PySem.W.Frag} {mg : Str → Option Value} {base : Heap} {D : Ads}
def spDone (K : PySem.W.Frag) (k : Nat) : Sp := fun vs H Q _ => ∃ (v : V) (L : Looms) (nm : Nat) (ra : Addr) (r : List Int), vs = [v, .str (nmS nm), .ref ra] ∧ LoomsAt K H v L ∧ LOk L ∧ nm < L.length ∧ SqL K H ra (r.map V.int) ∧ r.length = 2 ^ k ∧ k ≤ 21 ∧
  ∀ H' p, Same H H' → SqL K H' p ((doneN L k nm r).map V.int) → Q (.ref p) H'
def spCalled (K : PySem.W.Frag) (k : Nat) : Sp := fun vs H Q _ => ∃ (v cv : V) (L : Looms) (c : Option (Nat × Bool)) (ra : Addr) (r : List Int), vs = [v, cv, .ref ra] ∧ LoomsAt K H v L ∧ LOk L ∧ Dp K H cv (callD c) ∧ (∀ x, c = some x → x.1 < L.length) ∧ SqL K H ra (r.map V.int) ∧ r.length = 2 ^ k ∧ k ≤ 21 ∧
  ∀ H' p, Same H H' → SqL K H' p ((callN L k c r).map V.int) → Q (.ref p) H'
theorem called_of (T : Txt K mg D) {k : Nat} (hd : FnOk P w K mg base CX0 (2 * k + 3) (D.d 29).f (D.d 29).fd ["looms", "name", "row"] (spDone K k)) : FnOk P w K mg base CX0 (2 * k + 4) (D.d 30).f (D.d 30).fd ["looms", "call", "row"] (spCalled K k) := by
  refine T.w30.F.ok scCalled (fun vs H Q E h => ?_) (fun cdv A outer s H vs Q E hr h => ?_)
  · obtain ⟨_, _, _, _, _, _, rfl, _⟩ := h
    rfl
  · obtain ⟨v, cv, L, c, ra, r, rfl, hL, ok, hc, hcl, hR, hlen, h21, kk⟩ := h
    refine ⟨_, (pss_cons (ps_if (pt_cmp (pc_isN (pv 1)) rfl) (pss_one (ps_ret (pv 2))) pss_nil)
      (pss_one (ps_ret (pe_ifExp (pt_val (pe_ix ix_tup (pv 1) pe_int (fun _ _ => rfl))) (pe_revL (pe_call (hd) (hr.mono (by omega)) (by rfl) T.w29.m T.w29.F.kp T.w29.B .nil pass0 (pa_cons (pv 0) (pa_cons (pe_ix ix_tup (pv 1) pe_int (fun _ _ => rfl)) (pa_cons (pe_revL (pv 2)) pa_nil))))) (pe_call (hd) (hr.mono (by omega)) (by rfl) T.w29.m T.w29.F.kp T.w29.B .nil pass0 (pa_cons (pv 0) (pa_cons (pe_ix ix_tup (pv 1) pe_int (fun _ _ => rfl)) (pa_cons (pv 2) pa_nil)))))))), ?_⟩
    cases c with
    | none =>
      have e := Dp.isNone hc
      subst e
      refine ⟨_, rfl, true, rfl, iteT ⟨_, rfl, kk _ ra (Same.refl _) ?_⟩⟩
      rw [callN]; exact hR
    | some c =>
      obtain ⟨nm, t⟩ := c
      obtain ⟨ca, rfl, hca⟩ := call_get hc
      refine ⟨_, rfl, false, rfl, iteF ?_⟩
      refine ⟨_, rfl, _, _, _, .bl t, rfl, rfl, hca, at_of (j := 1) rfl rfl, t, rfl, ?_⟩
      cases t with
      | true =>
        refine iteT ⟨_, rfl, _, rfl, _, _, _, .str (nmS nm), rfl, rfl, hca, at_of (j := 0) rfl rfl, _, rfl, ra, _, rfl, hR, fun p hp => ?_⟩
        have s1 := same_new (o := .lst (r.map V.int).reverse) hp
        refine ⟨v, L, nm, p, r.reverse, rfl, hL.mono s1, ok, hcl _ rfl, ?_, by simpa using hlen, h21, fun H2 q s2 hq => ⟨q, _, rfl, hq, fun t ht => ?_⟩⟩
        · rw [List.map_reverse]; exact SqL.of upd_same
        · refine kk _ t ((s1.trans s2).trans (same_new ht)) ?_
          rw [callN]
          show SqL K _ t ((doneN L k nm r.reverse).reverse.map V.int)
          rw [List.map_reverse]; exact SqL.of upd_same
      | false =>
        refine iteF ⟨_, rfl, _, rfl, _, _, _, .str (nmS nm), rfl, rfl, hca, at_of (j := 0) rfl rfl, _, rfl, v, L, nm, ra, r, rfl, hL, ok, hcl _ rfl, hR, hlen, h21, fun H2 q s2 hq => kk _ q s2 ?_⟩
        rw [callN]; exact hq
theorem ok_done (T : Txt K mg D) : ∀ k : Nat, FnOk P w K mg base CX0 (2 * k + 3) (D.d 29).f (D.d 29).fd ["looms", "name", "row"] (spDone K k)
  | 0 => by
    refine T.w29.F.ok scDone (fun vs H Q E h => ?_) (fun cdv A outer s H vs Q E hr h => ?_)
    · obtain ⟨_, _, _, _, _, rfl, _⟩ := h
      rfl
    · obtain ⟨v, L, nm, ra, r, rfl, hL, ok, hnm, hR, hlen, h21, kk⟩ := h
      refine ⟨_, pss_cons (ps_if (pt_cmpR op_eq (pe_callB call_len_seq (by rfl) T.len boot_len (pa_cons (pv 2) pa_nil)) pe_int (nomark _)) (pss_one (ps_ret (pe_callTy call_list_of (by rfl) T.list boot_list (pa_cons (pv 2) pa_nil)))) pss_nil) pss_never, ?_⟩
      refine ⟨_, rfl, _, _, rfl, .inl hR, rfl, true, ?_, iteT ⟨_, rfl, ra, _, rfl, .inl hR, fun p hp => kk _ p (same_new hp) ?_⟩⟩
      · exact congrArg V.bl (decide_eq_true (congrArg V.int (by rw [List.length_map, hlen]; rfl)))
      · rw [doneN]; exact SqL.of upd_same
  | k + 1 => by
    have hd := ok_done T k
    have hcall := called_of T hd
    refine T.w29.F.ok scDone (fun vs H Q E h => ?_) (fun cdv A outer s H vs Q E hr h => ?_)
    · obtain ⟨_, _, _, _, _, rfl, _⟩ := h
      rfl
    · obtain ⟨v, L, nm, ra, r, rfl, hL, ok, hnm, hR, hlen, h21, kk⟩ := h
      refine ⟨_, (pss_cons (ps_if (pt_cmpR op_eq (pe_callB call_len_seq (by rfl) T.len boot_len (pa_cons (pv 2) pa_nil)) pe_int (nomark _)) (pss_one (ps_ret (pe_callTy call_list_of (by rfl) T.list boot_list (pa_cons (pv 2) pa_nil)))) pss_nil)
      (pss_cons (ps_asg (pe_dget (hu_of hr) (pv 0) (pv 1) (fun _ _ => rfl)) (pg_tup (by rfl) (pgs_cons (pg_name (i := 4) scDone.nd rfl (by first | exact Or.inl rfl | exact Or.inr rfl)) (pgs_cons (pg_name (i := 5) scDone.nd rfl (by first | exact Or.inl rfl | exact Or.inr rfl)) (pgs_cons (pg_name (i := 6) scDone.nd rfl (by first | exact Or.inl rfl | exact Or.inr rfl)) pgs_nil)))))
      (pss_cons (ps_par (i := 7) (j := 8) (by rfl) scDone.nd rfl rfl (by decide) rfl rfl (pa_cons (pe_callTy call_list_of (by rfl) T.list boot_list (pa_cons (pe_slice sl_list (pv 2) po_none (po_some (pe_op op_fdiv (pe_callB call_len_seq (by rfl) T.len boot_len (pa_cons (pv 2) pa_nil)) pe_int))) pa_nil)) (pa_cons (pe_callTy call_list_of (by rfl) T.list boot_list (pa_cons (pe_slice sl_list (pv 2) (po_some (pe_op op_fdiv (pe_callB call_len_seq (by rfl) T.len boot_len (pa_cons (pv 2) pa_nil)) pe_int)) po_none) pa_nil)) pa_nil)) (by rfl))
      (pss_cons (ps_for PassesOwn.never rfl (pi_tup (pv 4)) (pg_name (i := 3) scDone.nd rfl (by first | exact Or.inl rfl | exact Or.inr rfl)) (pss_one (ps_asg (pe_call (ok_stepped T) (hr.mono (by omega)) (by rfl) T.w25.m T.w25.F.kp T.w25.B .nil pass0 (pa_cons (pv 3) (pa_cons (pv 7) (pa_cons (pv 8) pa_nil)))) (pg_tup (by rfl) (pgs_cons (pg_name (i := 7) scDone.nd rfl (by first | exact Or.inl rfl | exact Or.inr rfl)) (pgs_cons (pg_name (i := 8) scDone.nd rfl (by first | exact Or.inl rfl | exact Or.inr rfl)) pgs_nil))))))
      (pss_one (ps_ret (pe_lst (StX.pa_star (pe_call (hcall) (hr.mono (by omega)) (by rfl) T.w30.m T.w30.F.kp T.w30.B .nil pass0 (pa_cons (pv 0) (pa_cons (pv 5) (pa_cons (pv 7) pa_nil)))) (StX.pa_star (pe_call (hcall) (hr.mono (by omega)) (by rfl) T.w30.m T.w30.F.kp T.w30.B .nil pass0 (pa_cons (pv 0) (pa_cons (pv 6) (pa_cons (pv 8) pa_nil)))) pa_nil))))))))), ?_⟩
      have p2 : 2 ^ (k + 1) = 2 * 2 ^ k := by rw [Nat.pow_succ]; omega
      have p0 : 0 < 2 ^ k := Nat.two_pow_pos k
      have pz := pow21 h21
      have rl : (r.map V.int).length = 2 * 2 ^ k := by rw [List.length_map, hlen, p2]
      have hh : r.length / 2 = 2 ^ k := by rw [hlen, p2]; omega
      refine ⟨_, rfl, _, _, rfl, .inl hR, rfl, false, ?_, iteF ?_⟩
      · exact congrArg V.bl (decide_eq_false fun e => by injection e with e; rw [rl] at e; omega)
      obtain ⟨da, lv, rfl, hg, hlv⟩ := looms_get hL ok.three hnm
      obtain ⟨ll, v0, v1, v2, rfl, hll, k0, k1, k2⟩ := loom_get hlv
      refine ⟨_, rfl, _, rfl, da, _, rfl, hg, ll, _, rfl, hll, rfl, _, _, rfl, _, _, rfl, _, _, rfl, rfl, ?_⟩
      -- left, right
      have e1 : cutV (r.map V.int) none (some (((r.map V.int).length : Int) / 2)) = (r.take (2 ^ k)).map V.int := cut_takeL (2 ^ k) (by rw [rl]; omega)
      have e2 : cutV (r.map V.int) (some (((r.map V.int).length : Int) / 2)) none = (r.drop (2 ^ k)).map V.int := cut_dropL (2 ^ k) (by rw [rl]; omega)
      refine ⟨_, rfl, _, rfl, _, _, rfl, .inl hR, _, _, rfl, rfl, ⟨by decide, by decide⟩, _, rfl, slL_of hR e1 fun q1 H1 s1 hq1 => ⟨q1, _, rfl, .inl hq1, fun l1 hl1 => ?_⟩⟩
      have s2 := same_new (o := .lst ((r.take (2 ^ k)).map V.int)) hl1
      have s12 := s1.trans s2
      refine ⟨_, rfl, _, rfl, _, _, rfl, .inl (s12.seq hR), _, _, rfl, rfl, ⟨by decide, by decide⟩, _, rfl, no_part (slL_of (s12.seq hR) e2 fun q2 H2 s3 hq2 => ⟨q2, _, rfl, .inl hq2, fun l2 hl2 => ?_⟩)⟩
      have s4 := same_new (o := .lst ((r.drop (2 ^ k)).map V.int)) hl2
      have hL1 := SqL.of (K := K) (s4 _ _ (s3 _ _ (upd_same (H := H1) (a := l1) (o := HO.lst ((r.take (2 ^ k)).map V.int)))))
      have hL2 := SqL.of (K := K) (upd_same (H := H2) (a := l2) (o := HO.lst ((r.drop (2 ^ k)).map V.int)))
      have sA := (s12.trans s3).trans s4
      generalize upd H2 l2 (.lst ((r.drop (2 ^ k)).map V.int)) = H3 at hL1 hL2 sA ⊢
      refine ⟨_, _, rfl, ?_⟩
      -- for step in steps
      obtain ⟨sp, sxs, rfl, hs1, hs2⟩ := k0.tuple
      have hls : sxs.length = (L.at nm).steps.length := by rw [hs2.length]; simp
      refine ⟨_, rfl, sp, rfl, ⟨_, tupS sA hs1⟩, ?_⟩
      have t1 : (r.take (2 ^ k)).length = 2 ^ k := by rw [List.length_take, hlen]; omega
      have t2 : (r.drop (2 ^ k)).length = 2 ^ k := by rw [List.length_drop, hlen]; omega
      refine for_it (walk_tup (K := K) (a := sp) (xs := sxs)) (fun i σ Hx => ∃ z a1 a2, σ = [some (.ref da), some (.str (nmS nm)), some (.ref ra), z, some (.ref sp), some v1, some v2, some (.ref a1), some (.ref a2)] ∧ Same H Hx ∧
        SqL K Hx a1 ((((L.at nm).steps.take i).foldl (fun p s => stepR s p) (r.take (2 ^ k), r.drop (2 ^ k))).1.map V.int) ∧ SqL K Hx a2 ((((L.at nm).steps.take i).foldl (fun p s => stepR s p) (r.take (2 ^ k), r.drop (2 ^ k))).2.map V.int))
        ⟨none, l1, l2, rfl, sA, hL1, hL2⟩ (fun i σ Hx _ ⟨_, _, _, _, h, _⟩ => tupS h hs1) ?_ ?_
      · rintro i x σ Hx Hy hi ⟨z, a1, a2, rfl, hS, g1, g2⟩ ⟨rfl, ex⟩
        obtain ⟨d, ed, hd'⟩ := hs2.getV ex
        rw [List.getElem?_map] at ed
        obtain ⟨y, ey, rfl⟩ := Option.map_eq_some_iff.mp ed
        obtain ⟨f1, f2⟩ := fold_len ((L.at nm).steps.take i) (r.take (2 ^ k), r.drop (2 ^ k)) (t1.trans t2.symm)
        have e3 : (L.at nm).steps.take (i + 1) = (L.at nm).steps.take i ++ [y] := by
          rw [List.take_add_one, ey]; rfl
        refine ⟨_, rfl, _, rfl, _, rfl, x, y, a1, a2, _, _, rfl, hd'.mono hS, g1, g2, f1.trans f2.symm, ?_, fun H4 p4 l' r' s4 hp4 h1 h2 => ?_⟩
        · rw [f1]; show (r.take (2 ^ k)).length ≤ _; omega
        refine ⟨p4, _, rfl, hp4, rfl, _, _, rfl, _, _, rfl, rfl, ?_⟩
        refine ⟨_, l', r', rfl, hS.trans s4, ?_, ?_⟩
        · rw [e3, List.foldl_append]; exact h1
        · rw [e3, List.foldl_append]; exact h2
      · rintro σ Hx ⟨z, a1, a2, rfl, hS, g1, g2⟩
        rw [hls, List.take_length] at g1 g2
        obtain ⟨f1, f2⟩ := fold_len (L.at nm).steps (r.take (2 ^ k), r.drop (2 ^ k)) (t1.trans t2.symm)
        have ehv : halves r = (r.take (2 ^ k), r.drop (2 ^ k)) := by unfold halves; rw [hh]
        rw [← ehv] at g1 g2 f1 f2
        have u1 : ((L.at nm).steps.foldl (fun p s => stepR s p) (halves r)).1.length = 2 ^ k := by rw [f1, ehv]; exact t1
        have u2 : ((L.at nm).steps.foldl (fun p s => stepR s p) (halves r)).2.length = 2 ^ k := by rw [f2, ehv]; exact t1
        refine ⟨_, rfl, _, rfl, _, rfl, .ref da, v1, L, (L.at nm).one, a1, _, rfl, hL.mono hS, ok, k1.mono hS, fun x e => call_lt ok (s := false) e, g1, u1, by omega, fun H4 p4 s4 h4 => ?_⟩
        refine ⟨p4, _, rfl, .inr h4, ?_⟩
        refine ⟨_, rfl, _, rfl, _, rfl, .ref da, v2, L, (L.at nm).two, a2, _, rfl, hL.mono (hS.trans s4), ok, k2.mono (hS.trans s4), fun x e => call_lt ok (s := true) e, s4.seq g2, u2, by omega, fun H5 p5 s5 h5 => ?_⟩
        refine ⟨p5, _, rfl, .inr h5, ?_⟩
        refine ⟨?_, fun q hq => ?_⟩
        · rw [List.append_nil, List.length_append, List.length_map, List.length_map, (callN_perm u1).length_eq, (callN_perm u2).length_eq, u1, u2]
          have : sizeLine = 16777216 := sizeLine_eq
          omega
        · refine kk _ q (((hS.trans s4).trans s5).trans (same_new hq)) ?_
          rw [doneN]
          rw [List.map_append]
          have ea : ∀ xs ys : List V, xs ++ (ys ++ []) = xs ++ ys := fun xs ys => by rw [List.append_nil]
          rw [ea]
          exact SqL.of upd_same
end
end K6
set_option Elab.async false
set_option linter.all false
set_option maxRecDepth 100000
set_option maxHeartbeats 4000000
namespace K6
open PySem PySem.Spec PyProof.Rows L2
abbrev kvsE (E : List Nat) : List (L2.Key × V) := E.map fun (p : Nat) => ((Sum.inl (p : Int) : L2.Key), V.bl true)
theorem any_kvsE (E : List Nat) (p : Nat) : ((kvsE E).any fun kv => decide (kv.1 = (Sum.inl (p : Int) : L2.Key))) = decide (p ∈ E) := by
  induction E with
  | nil => simp [kvsE]
  | cons a E ih =>
    show (decide ((Sum.inl (a : Int) : L2.Key) = Sum.inl (p : Int)) || (kvsE E).any fun kv => decide (kv.1 = (Sum.inl (p : Int) : L2.Key))) = _
    rw [ih]
    by_cases h : a = p
    · subst h; simp
    · have h1 : ¬ (Sum.inl (a : Int) : L2.Key) = Sum.inl (p : Int) := fun e => by injection e with e; exact h (Int.ofNat.inj e)
      have h2 : ¬ p = a := fun e => h e.symm
      simp [h1, h2]
theorem put_kvsE (E : List Nat) (p : Nat) : putK (kvsE E) (Sum.inl (p : Int)) (V.bl true) = kvsE (ins E p) := by
  unfold putK ins
  rw [any_kvsE]
  by_cases h : p ∈ E
  · rw [decide_eq_true h, if_pos rfl, if_pos h]
    unfold kvsE
    rw [List.map_map]
    refine List.map_congr_left fun q _ => ?_
    show (if (Sum.inl (q : Int) : L2.Key) = Sum.inl (p : Int) then ((Sum.inl (q : Int) : L2.Key), V.bl true) else (Sum.inl (q : Int), V.bl true)) = _
    split <;> rfl
  · rw [decide_eq_false h, if_neg (by simp), if_neg h]
    unfold kvsE
    rw [List.map_append]; rfl
theorem val_kvsE (E : List Nat) (p : Nat) : (valV (kvsE E) (Sum.inl (p : Int))).isSome = decide (p ∈ E) := by
  rw [← valV_any, any_kvsE]
theorem upd_self {H : Hp} {a : Addr} {o : HO} (h : H a = some o) : upd H a o = H := by
  funext b
  by_cases e : b = a
  · rw [e, upd_same, h]
  · rw [upd_ne e]
theorem ends_join {σ : L2.St} {H : Hp} {Q : VK} {c : Prop} [Decidable c] (k : ∀ p H1, Same H H1 → H1 p = some (.dK (kvsE (if c then [0] else []))) → Q (.ref p) H1) : if decide c = true then tDisp [(tC (.int 0), tC (.bl true))] σ H Q else tDNewK σ H Q := by
  by_cases h : c
  · rw [decide_eq_true h]
    refine iteT fun p hp => ⟨upd_same, [(.inl 0, .bl true)], rfl, by show 1 ≤ 15; decide, ?_⟩
    refine k p _ (same_upd_new (same_new hp) hp) ?_
    rw [if_pos h, upd_same]; rfl
  · rw [decide_eq_false h]
    refine iteF fun p hp => k p _ (same_new hp) ?_
    rw [if_neg h, upd_same]; rfl
theorem small1 : 1 ≤ sizeLine := by decide
section
variable {P : Program} {w : World} {K : PySem.W.Frag} {mg : Str → Option Value} {base : Heap} {D : Ads}
def spLoomed (K : PySem.W.Frag) : Sp := fun vs H Q _ => ∃ (v : V) (L : Looms) (nm : Nat) (ra : Addr) (r : List Int) (k : Nat), vs = [v, .str (nmS nm), .ref ra] ∧ LoomsAt K H v L ∧ LOk L ∧ nm < L.length ∧ SqL K H ra (r.map V.int) ∧ r.length = 2 ^ k ∧ k ≤ 21 ∧
  ∀ H' p, Same H H' → SqL K H' p ((doneN L k nm r).map V.int) → Q (.ref p) H'
theorem ok_loomed (T : Txt K mg D) : FnOk P w K mg base CX0 50 (D.d 28).f (D.d 28).fd ["looms", "name", "row"] (spLoomed K) := by
  refine T.w28.F.ok scLoomed (fun vs H Q E h => ?_) (fun cdv A outer s H vs Q E hr h => ?_)
  · obtain ⟨_, _, _, _, _, _, rfl, _⟩ := h
    rfl
  · obtain ⟨v, L, nm, ra, r, k, rfl, hL, ok, hnm, hR, hlen, h21, kk⟩ := h
    refine ⟨_, (pss_cons (ps_expr (pe_call (ok_checkName T) (hr.mono (by decide)) (by rfl) T.w21.m T.w21.F.kp T.w21.B .nil pass0 (pa_cons (pv 0) (pa_cons (pv 1) pa_nil))))
      (pss_cons (ps_expr (pe_call (ok_checkWidth T) (hr.mono (by decide)) (by rfl) T.w27.m T.w27.F.kp T.w27.B .nil pass0 (pa_cons (pv 2) pa_nil)))
      (pss_one (ps_ret (pe_call (ok_done T k) (hr.mono (by omega)) (by rfl) T.w29.m T.w29.F.kp T.w29.B .nil pass0 (pa_cons (pv 0) (pa_cons (pv 1) (pa_cons (pe_callTy call_list_of (by rfl) T.list boot_list (pa_cons (pv 2) pa_nil)) pa_nil)))))))), ?_⟩
    have rz : r.length ≤ sizeLine := by have := pow21 h21; have : sizeLine = 16777216 := sizeLine_eq; omega
    refine ⟨_, rfl, _, rfl, v, L, nm, rfl, hL, ok, hnm, fun H1 s1 => ?_⟩
    refine ⟨_, rfl, ra, r, k, rfl, s1.seq hR, hlen, rz, fun H2 s2 => ?_⟩
    have s12 := s1.trans s2
    refine ⟨_, rfl, _, rfl, _, rfl, ra, _, rfl, .inl (s12.seq hR), fun l hl => ?_⟩
    have s3 := same_new (o := .lst (r.map V.int)) hl
    exact ⟨v, L, nm, l, r, rfl, hL.mono (s12.trans s3), ok, hnm, SqL.of upd_same, hlen, h21, fun H4 p s4 h4 => kk _ p ((s12.trans s3).trans s4) h4⟩
def spHasBlocks (K : PySem.W.Frag) : Sp := fun vs H Q _ => ∃ (ra wa : Addr) (r wd : List Int), vs = [.ref ra, .ref wa] ∧ SqL K H ra (r.map V.int) ∧ SqT K H wa (wd.map V.int) ∧ 0 < wd.length ∧ wd.length ≤ 4 ∧ r.length ≤ 4194304 ∧ Ret H Q (.bl (hasB wd r))
theorem ok_hasBlocks (T : Txt K mg D) : FnOk P w K mg base CX0 1 (D.d 48).f (D.d 48).fd ["row", "word"] (spHasBlocks K) := by
  refine T.w48.F.ok scHasBlocks (fun vs H Q E h => ?_) (fun cdv A outer s H vs Q E hr h => ?_)
  · obtain ⟨_, _, _, _, rfl, _⟩ := h
    rfl
  · obtain ⟨ra, wa, r, wd, rfl, hR, hW, h0, h4, hz, kk⟩ := h
    refine ⟨_, (pss_cons (ps_set (i := 2) scHasBlocks.nd rfl (by first | exact Or.inl rfl | exact Or.inr rfl) (pe_ifExp (pt_cmpR (op_eqD hr.units) (pe_slice sl_list (pv 0) po_none (po_some pe_int)) (pe_lst (pa_cons (pe_ix ix_tup (pv 1) pe_int (fun _ _ => rfl)) pa_nil)) (nomark _)) (pe_disp (pps_cons pe_int pe_bl pps_nil) rfl rfl (by simp) (by decide)) pe_dnewK))
      (pss_cons (ps_for PassesOwn.never rfl (pi_list (pe_slice sl_list (pv 0) (po_some pe_int) po_none)) (pg_name (i := 3) scHasBlocks.nd rfl (by first | exact Or.inl rfl | exact Or.inr rfl)) (pss_cons (ps_set (i := 4) scHasBlocks.nd rfl (by first | exact Or.inl rfl | exact Or.inr rfl) pe_dnewK)
      (pss_cons (ps_lock (ps_for PassesOwn.never rfl (pi_keys (pv 2)) (pg_name (i := 5) scHasBlocks.nd rfl (by first | exact Or.inl rfl | exact Or.inr rfl)) (pss_cons (ps_if (pt_cmpR op_eq (pe_ix ix_tup (pv 1) (pv 5) (fun _ _ => rfl)) (pv 3) (nomark _)) (pss_one (ps_dput (hu_of hr) (pv 4) (pv 5) pe_bl rfl)) pss_nil)
      (pss_one (ps_if (PW.pt (pw_and (pt_cmpR op_lt (pe_op op_add (pv 5) pe_int) (pe_callB call_len_seq (by rfl) T.len boot_len (pa_cons (pv 1) pa_nil)) (nomark _)) (pw_and1 (pt_cmpR op_eq (pe_ix ix_tup (pv 1) (pe_op op_add (pv 5) pe_int) (fun _ _ => rfl)) (pv 3) (nomark _))))) (pss_one (ps_dput (hu_of hr) (pv 4) (pe_op op_add (pv 5) pe_int) pe_bl rfl)) pss_nil)))))
      (pss_one (ps_set (i := 2) scHasBlocks.nd rfl (by first | exact Or.inl rfl | exact Or.inr rfl) (pv 4))))))
      (pss_one (ps_ret (pe_cmp (pc_din (hu_of hr) (pe_op op_sub (pe_callB call_len_seq (by rfl) T.len boot_len (pa_cons (pv 1) pa_nil)) pe_int) (pv 2)) (by rfl)))))), ?_⟩
    have wne : wd ≠ [] := fun e => by rw [e] at h0; exact absurd h0 (by decide)
    -- ends
    have e1 : cutV (r.map V.int) none (some (1 : Int)) = (r.take 1).map V.int := cut_takeL 1 rfl
    refine ⟨_, rfl, _, rfl, slL_of hR e1 fun q1 H1 s1 hq1 => ?_⟩
    have hw0 : (wd.map V.int)[0]? = some (.int (wd.getD 0 0)) := by rw [List.getElem?_map, getD_at h0]; rfl
    refine ⟨_, rfl, wa, _, _, .int (wd.getD 0 0), rfl, rfl, tupS s1 hW, at_of (j := 0) rfl hw0, small1, fun q2 hq2 => ?_⟩
    have s2 := same_new (o := .lst [.int (wd.getD 0 0)]) hq2
    have et : wd.take 1 = [wd.getD 0 0] := by
      match wd, h0 with
      | a :: l, _ => rfl
    refine ⟨.list ((r.take 1).map .int), .list ((wd.take 1).map .int), dp_ints (s2.seq hq1), ?_, shaped_ints _, shaped_ints _, ?_⟩
    · rw [et]; exact dp_ints (l := [wd.getD 0 0]) (SqL.of upd_same)
    rw [eqv_list eqv_int]
    refine ⟨decide (r.take 1 = wd.take 1), rfl, ?_⟩
    refine ends_join fun e H2 s3 he => ?_
    have sA := (s1.trans s2).trans s3
    have he : H2 e = some (.dK (kvsE (startE wd r))) := he
    -- for sign in row[1:]
    have e2 : cutV (r.map V.int) (some (1 : Int)) none = (r.drop 1).map V.int := cut_dropL 1 rfl
    refine ⟨_, rfl, _, rfl, no_part (slL_of (sA.seq hR) e2 fun q3 H3 s4 hq3 => ?_)⟩
    refine ⟨q3, rfl, ⟨_, hq3⟩, ?_⟩
    have sB := sA.trans s4
    have heB := s4 _ _ he
    have zl : sizeLine = 16777216 := sizeLine_eq
    refine for_it (walk_list (K := K) (a := q3) (xs := (r.drop 1).map V.int)) (fun i σ Hx => ∃ e z1 z2 z3, σ = [some (.ref ra), some (.ref wa), some (.ref e), z1, z2, z3] ∧ Same H3 Hx ∧ Hx e = some (.dK (kvsE (runE wd (startE wd r) ((r.drop 1).take i)))))
      ⟨e, none, none, none, rfl, Same.refl _, heB⟩ (fun i σ Hx _ ⟨_, _, _, _, _, h, _⟩ => h.seq hq3) ?_ ?_
    · rintro i x σ Hx Hy hi ⟨e, z1, z2, z3, rfl, hS, hE⟩ ⟨rfl, ex⟩
      rw [List.getElem?_map] at ex
      obtain ⟨x, ex0, rfl⟩ := Option.map_eq_some_iff.mp ex
      have eok : EOk wd (runE wd (startE wd r) ((r.drop 1).take i)) := runE_ok (startE_ok wne)
      generalize hEi : runE wd (startE wd r) ((r.drop 1).take i) = Ei at hE eok
      intro l hl
      have s5 := same_new (o := .dK []) hl
      have hE5 := s5 _ _ hE
      have nel : e ≠ l := ne_of_none hE hl
      -- for place in ends
      refine ⟨e, _, hE5, trivial, fun od => ?_⟩
      refine ⟨_, rfl, e, od, rfl, .inl ⟨_, upd_same, ?_⟩⟩
      have sH3l : H3 l = none := by
        cases q : H3 l with
        | none => rfl
        | some u => rw [hS _ _ q] at hl; cases hl
      refine for_it (walk_keys (d := e) (o := od) (kvs := kvsE Ei)) (fun j σ Hz => ∃ z, σ = [some (.ref ra), some (.ref wa), some (.ref e), some (.int x), some (.ref l), z] ∧ Hz e = some (.frz od (.dK (kvsE Ei))) ∧ Same H3 (upd Hz e (.dK (kvsE Ei))) ∧ Hz l = some (.dK (kvsE ((Ei.take j).foldl (oneE wd x) []))))
        ⟨_, rfl, upd_same, ?_, ?_⟩ (fun j σ Hz _ ⟨_, _, h, _⟩ => h) ?_ ?_
      · rw [upd_upd, upd_self hE5]; exact hS.trans s5
      · rw [upd_ne (Ne.symm nel)]; exact upd_same
      · rintro j k σ Hz Hw hj ⟨z, rfl, f1, f2, f3⟩ ⟨rfl, key, v, ek, rfl⟩
        have ek : (Ei.map fun (p : Nat) => ((Sum.inl (p : Int) : L2.Key), V.bl true))[j]? = some (key, v) := ek
        rw [List.getElem?_map] at ek
        obtain ⟨pl, epl, ekv⟩ := Option.map_eq_some_iff.mp ek
        cases ekv
        have tW : SqT K Hw wa (wd.map V.int) := by
          have := tup_upd (u := .frz od (.dK (kvsE Ei))) (tupS (sB.trans f2) hW) (upd_same) rfl
          rw [upd_upd, upd_self f1] at this
          exact this
        have wlen : (wd.map V.int).length = wd.length := List.length_map _
        have hpl : pl < wd.length := eok.2 pl (List.mem_of_getElem? epl)
        have gpl : (wd.map V.int)[pl]? = some (.int (wd.getD pl 0)) := by rw [List.getElem?_map, getD_at hpl]; rfl
        have okl : ∀ l' : List Nat, EOk wd l' → (kvsE l').length < sizeLine := fun l' h => by
          have := h.len
          have : (kvsE l').length = l'.length := List.length_map _
          omega
        have ok1 : EOk wd ((Ei.take j).foldl (oneE wd x) []) := foldE_ok ⟨List.nodup_nil, fun p hp => by simp at hp⟩
        have et1 : Ei.take (j + 1) = Ei.take j ++ [pl] := by rw [List.take_add_one, epl]; rfl
        have cond1 : ∀ b : Bool, b = decide (wd[pl]? = some x) → V.bl (decide (V.int (wd.getD pl 0) = V.int x)) = V.bl b := fun b e => by
          rw [e, getD_at hpl]
          exact congrArg V.bl (decide_eq_decide.mpr ⟨fun h => by injection h with h; rw [h], fun h => by injection h with h; rw [h]⟩)
        have keep : ∀ (o : HO), Same H3 (upd (upd Hw l o) e (.dK (kvsE Ei))) := fun o b u eb => by
          by_cases h1 : b = e
          · subst h1
            have := f2 b u eb
            rw [upd_same] at this ⊢
            exact this
          · have h2 : b ≠ l := fun z => by rw [z, sH3l] at eb; cases eb
            have := f2 b u eb
            rw [upd_ne h1] at this
            rw [upd_ne h1, upd_ne h2]
            exact this
        refine ⟨_, rfl, _, rfl, wa, _, _, .int (wd.getD pl 0), rfl, rfl, tW, at_of (j := pl) rfl gpl, _, rfl, rfl, decide (wd[pl]? = some x), cond1 _ rfl, ?_⟩
        generalize hF : (Ei.take j).foldl (oneE wd x) [] = Fj at f3 ok1
        have ok1' : EOk wd (if wd[pl]? = some x then ins Fj pl else Fj) := by
          split
          · rename_i q
            exact ⟨nd_ins ok1.1, fun p hp => by
              rcases mem_ins.mp hp with hp | hp
              · exact ok1.2 p hp
              · rw [hp]; exact hpl⟩
          · exact ok1
        refine ite_nx (fun (_ : Unit) H4 => H4 e = some (.frz od (.dK (kvsE Ei))) ∧ Same H3 (upd H4 e (.dK (kvsE Ei))) ∧ SqT K H4 wa (wd.map V.int) ∧ H4 l = some (.dK (kvsE (if wd[pl]? = some x then ins Fj pl else Fj)))) (fun NX hNX => ?_) ?_
        · by_cases q : wd[pl]? = some x
          · rw [decide_eq_true q]
            refine iteT ⟨_, rfl, _, rfl, l, _, rfl, DPut.k (k := .inl (pl : Int)) f3 (okl _ ok1), ?_⟩
            refine hNX () _ ⟨by rw [upd_ne nel]; exact f1, keep _, tup_upd tW f3 rfl, ?_⟩
            rw [upd_same, put_kvsE, if_pos q]
          · rw [decide_eq_false q]
            refine iteF (hNX () _ ⟨f1, f2, tW, ?_⟩)
            rw [if_neg q]; exact f3
        rintro ⟨⟩ H4 ⟨g1, g2, g3, g4⟩
        have efold : (Ei.take (j + 1)).foldl (oneE wd x) [] = if wd[pl + 1]? = some x then ins (if wd[pl]? = some x then ins Fj pl else Fj) (pl + 1) else (if wd[pl]? = some x then ins Fj pl else Fj) := by
          rw [et1, List.foldl_append, hF]; rfl
        generalize (if wd[pl]? = some x then ins Fj pl else Fj) = G1 at g4 ok1' efold
        by_cases q1 : pl + 1 < wd.length
        · have gp1 : (wd.map V.int)[pl + 1]? = some (.int (wd.getD (pl + 1) 0)) := by rw [List.getElem?_map, getD_at q1]; rfl
          refine ⟨_, rfl, _, _, rfl, rfl, _, rfl, _, _, rfl, .inr g3, _, _, rfl, rfl, true, congrArg V.bl (decide_eq_true (by rw [wlen]; omega)), iteT ?_⟩
          have cond2 : V.bl (decide (V.int (wd.getD (pl + 1) 0) = V.int x)) = V.bl (decide (wd[pl + 1]? = some x)) := by
            rw [getD_at q1]
            exact congrArg V.bl (decide_eq_decide.mpr ⟨fun h => by injection h with h; rw [h], fun h => by injection h with h; rw [h]⟩)
          refine ⟨_, rfl, _, rfl, _, _, rfl, rfl, wa, _, _, .int (wd.getD (pl + 1) 0), rfl, rfl, g3, at_of (j := pl + 1) rfl gp1, _, rfl, rfl, decide (wd[pl + 1]? = some x), cond2, ?_⟩
          by_cases q : wd[pl + 1]? = some x
          · rw [decide_eq_true q]
            refine iteT ⟨_, rfl, _, rfl, _, _, rfl, rfl, l, _, rfl, DPut.k (k := .inl ((pl + 1 : Nat) : Int)) g4 (okl _ ok1'), ?_⟩
            refine ⟨_, rfl, by rw [upd_ne nel]; exact g1, ?_, ?_⟩
            · intro b u eb
              by_cases h1 : b = e
              · subst h1
                have := g2 b u eb
                rw [upd_same] at this ⊢
                exact this
              · have h2 : b ≠ l := fun z => by rw [z, sH3l] at eb; cases eb
                have := g2 b u eb
                rw [upd_ne h1] at this
                rw [upd_ne h1, upd_ne h2]
                exact this
            · rw [upd_same, put_kvsE, efold, if_pos q]
          · rw [decide_eq_false q]
            refine iteF ⟨_, rfl, g1, g2, ?_⟩
            rw [efold, if_neg q]; exact g4
        · refine ⟨_, rfl, _, _, rfl, rfl, _, rfl, _, _, rfl, .inr g3, _, _, rfl, rfl, false, congrArg V.bl (decide_eq_false (by rw [wlen]; omega)), iteF (iteF ?_)⟩
          have q : ¬ wd[pl + 1]? = some x := fun h => q1 (List.getElem?_eq_some_iff.mp h).1
          refine ⟨_, rfl, g1, g2, ?_⟩
          rw [efold, if_neg q]; exact g4
      · rintro σ Hz ⟨z, rfl, f1, f2, f3⟩
        refine ⟨f1, ?_⟩
        have eln : (kvsE Ei).length = Ei.length := List.length_map _
        rw [eln, List.take_length] at f3
        refine ⟨_, rfl, ?_⟩
        refine ⟨l, _, _, _, rfl, f2, ?_⟩
        rw [upd_ne (Ne.symm nel), f3]
        have hi2 : i < (r.drop 1).length := (List.getElem?_eq_some_iff.mp ex0).1
        have e3 : (r.drop 1).take (i + 1) = (r.drop 1).take i ++ [x] := by rw [List.take_add_one, ex0]; rfl
        rw [e3, runE_app, hEi]; rfl
    · rintro σ Hx ⟨e, z1, z2, z3, rfl, hS, hE⟩
      have wlen : (wd.map V.int).length = wd.length := List.length_map _
      rw [List.length_map, List.take_length] at hE
      refine ⟨_, rfl, _, _, rfl, .inr (tupS (sB.trans hS) hW), _, _, rfl, rfl, _, rfl, e, _, rfl, .inl ⟨_, .inl ((wd.length - 1 : Nat) : Int), .inl hE, ?_, rfl⟩, ?_⟩
      · show V.int (((wd.map V.int).length : Int) - 1) = V.int ((wd.length - 1 : Nat) : Int)
        rw [wlen]; exact congrArg V.int (by omega)
      · rw [val_kvsE]
        have : decide (wd.length - 1 ∈ runE wd (startE wd r) (r.drop 1)) = hasB wd r := by unfold hasB; rw [List.drop_one]
        rw [this]
        exact kk _ (sB.trans hS)
end
end K6
set_option Elab.async false
set_option linter.all false
set_option maxRecDepth 100000
set_option maxHeartbeats 4000000
namespace K6
open PySem PySem.Spec PyProof.Rows L2
/-- a comprehension with two fors -/
theorem lc2_it {J : It} {n : Nat} {G : Hp → Prop} {Y : Nat → Hp → V → Hp → Prop} (w : Walk J n G Y) {wi1 : TI} {g g1 : TG} {tt tt1 : TT} {te : TE} {vs vs1 : List Nat} {σ : L2.St} {H1 : Hp} {D : Addr} {Qd : Hp → Prop} (Pv : Nat → Hp → Prop) (h0 : Pv 0 (upd H1 D (.lst []))) (hG : ∀ i H, i ≤ n → Pv i H → G H)
    (hs : ∀ i x H H', i < n → Pv i H → Y i H x H' → g x (wipe σ vs) H' fun σ2 H2 => wipe σ2 vs = wipe σ vs ∧ tt σ2 H2 fun b H3 =>
      if b = true then wi1 σ2 H3 fun J1 H4 => ∃ W1 : Nat → Nat → Hp → Prop, (∃ m, W1 0 m H4) ∧ ∀ j k H, W1 j k H →
        (J1.stop j H ∧ Pv (i + 1) H) ∨ (J1.go j H ∧ ∃ Nx1 : Hp → Prop, (∀ H', Nx1 H' → ∃ k', k' < k ∧ W1 (j + 1) k' H') ∧ ∀ x H', J1.yld j H x H' → g1 x (wipe σ2 vs1) H' fun σ3 H5 => wipe σ3 vs1 = wipe σ2 vs1 ∧ tt1 σ3 H5 fun b H6 =>
          if b = true then te σ3 H6 fun y H7 => ∃ acc, H7 D = some (.lst acc) ∧ acc.length < sizeLine ∧ Nx1 (upd H7 D (.lst (acc ++ [y]))) else Nx1 H6)
      else Pv (i + 1) H3) (hd : ∀ H, Pv n H → Qd H) :
    ∃ W : Nat → Nat → Hp → Prop, (∃ m, W 0 m (upd H1 D (.lst []))) ∧ ∀ i m H, W i m H →
      (J.stop i H ∧ Qd H) ∨ (J.go i H ∧ ∃ Nx : Hp → Prop, (∀ H', Nx H' → ∃ m', m' < m ∧ W (i + 1) m' H') ∧ ∀ x H', J.yld i H x H' → g x (wipe σ vs) H' fun σ2 H2 => wipe σ2 vs = wipe σ vs ∧ tt σ2 H2 fun b H3 =>
        if b = true then wi1 σ2 H3 fun J1 H4 => ∃ W1 : Nat → Nat → Hp → Prop, (∃ m, W1 0 m H4) ∧ ∀ j k H, W1 j k H →
          (J1.stop j H ∧ Nx H) ∨ (J1.go j H ∧ ∃ Nx1 : Hp → Prop, (∀ H', Nx1 H' → ∃ k', k' < k ∧ W1 (j + 1) k' H') ∧ ∀ x H', J1.yld j H x H' → g1 x (wipe σ2 vs1) H' fun σ3 H5 => wipe σ3 vs1 = wipe σ2 vs1 ∧ tt1 σ3 H5 fun b H6 =>
            if b = true then te σ3 H6 fun y H7 => ∃ acc, H7 D = some (.lst acc) ∧ acc.length < sizeLine ∧ Nx1 (upd H7 D (.lst (acc ++ [y]))) else Nx1 H6)
        else Nx H3) := by
  refine ⟨fun i m H => m = n - i ∧ i ≤ n ∧ Pv i H, ⟨n, by simp, Nat.zero_le _, h0⟩, ?_⟩
  rintro i m H ⟨rfl, hi, p⟩
  have q := hG i H hi p
  by_cases hlt : i < n
  · refine .inr ⟨w.goes i H hlt q, Pv (i + 1), fun H' p' => ⟨n - (i + 1), by omega, rfl, hlt, p'⟩, fun x H' y => ?_⟩
    exact hs i x H H' hlt p (w.yields i H x H' hlt q y)
  · have e : i = n := by omega
    subst e
    exact .inl ⟨w.stops H q, hd H p⟩
/-- the inner for -/
theorem in_it {J1 : It} {n : Nat} {G : Hp → Prop} {Y : Nat → Hp → V → Hp → Prop} (w : Walk J1 n G Y) {g1 : TG} {tt1 : TT} {te : TE} {vs1 : List Nat} {σ2 : L2.St} {H4 : Hp} {D : Addr} {Qd : Hp → Prop} (Pv : Nat → Hp → Prop) (h0 : Pv 0 H4) (hG : ∀ i H, i ≤ n → Pv i H → G H)
    (hs : ∀ j x H H', j < n → Pv j H → Y j H x H' → g1 x (wipe σ2 vs1) H' fun σ3 H5 => wipe σ3 vs1 = wipe σ2 vs1 ∧ tt1 σ3 H5 fun b H6 =>
          if b = true then te σ3 H6 fun y H7 => ∃ acc, H7 D = some (.lst acc) ∧ acc.length < sizeLine ∧ Pv (j + 1) (upd H7 D (.lst (acc ++ [y]))) else Pv (j + 1) H6) (hd : ∀ H, Pv n H → Qd H) :
    ∃ W1 : Nat → Nat → Hp → Prop, (∃ m, W1 0 m H4) ∧ ∀ j k H, W1 j k H →
      (J1.stop j H ∧ Qd H) ∨ (J1.go j H ∧ ∃ Nx1 : Hp → Prop, (∀ H', Nx1 H' → ∃ k', k' < k ∧ W1 (j + 1) k' H') ∧ ∀ x H', J1.yld j H x H' → g1 x (wipe σ2 vs1) H' fun σ3 H5 => wipe σ3 vs1 = wipe σ2 vs1 ∧ tt1 σ3 H5 fun b H6 =>
        if b = true then te σ3 H6 fun y H7 => ∃ acc, H7 D = some (.lst acc) ∧ acc.length < sizeLine ∧ Nx1 (upd H7 D (.lst (acc ++ [y]))) else Nx1 H6) := by
  refine ⟨fun i m H => m = n - i ∧ i ≤ n ∧ Pv i H, ⟨n, by simp, Nat.zero_le _, h0⟩, ?_⟩
  rintro i m H ⟨rfl, hi, p⟩
  have q := hG i H hi p
  by_cases hlt : i < n
  · refine .inr ⟨w.goes i H hlt q, Pv (i + 1), fun H' p' => ⟨n - (i + 1), by omega, rfl, hlt, p'⟩, fun x H' y => ?_⟩
    exact hs i x H H' hlt p (w.yields i H x H' hlt q y)
  · have e : i = n := by omega
    subst e
    exact .inl ⟨w.stops H q, hd H p⟩
theorem ite_join {α : Type} (Good : α → L2.St → Hp → Prop) {b : Bool} {t1 t2 : TS} {D : Ends} {σ : L2.St} {H : Hp} (h : ∀ NX : L2.St → Hp → Prop, (∀ x σ2 H2, Good x σ2 H2 → NX σ2 H2) → if b = true then t1 { D with nx := NX } σ H else t2 { D with nx := NX } σ H) (k : ∀ x σ2 H2, Good x σ2 H2 → D.nx σ2 H2) :
    if b = true then t1 D σ H else t2 D σ H := h D.nx k
theorem seq_asg {te : TE} {g : TG} {t : TS} {D : Ends} {σ : L2.St} {H : Hp} (h : te σ H fun x H1 => g x σ H1 fun σ2 H2 => t D σ2 H2) : tSeq (tAsg te g) t D σ H := h
theorem at_st {t : TS} {D : Ends} {σ σ' : L2.St} {H : Hp} (e : σ = σ') (h : t D σ' H) : t D σ H := by
  subst e
  exact h
theorem gn_st {i : Nat} {v : V} {σ σ' : L2.St} {H : Hp} {Q : L2.St → Hp → Prop} (e : σ.set i (some v) = σ') (h : Q σ' H) : gName i v σ H Q := by
  subst e
  exact h
theorem rep_flat (n : Nat) (a : V) : (List.replicate n [a]).flatten = List.replicate n a := by
  induction n with
  | zero => rfl
  | succ n ih => rw [List.replicate_succ, List.flatten_cons, ih]; rfl
theorem ixN_of {n j : Nat} (h : j < n) : ixN n (j : Int) = some j := by
  unfold ixN
  rw [if_pos (by omega), if_pos (by omega)]; simp
theorem cut_lastV (xs : List V) : cutV xs none (some (-1)) = xs.dropLast := by
  unfold cutV
  rw [HT.sIx_none]
  have e : HT.sIx xs.length xs.length (some (-1)) = xs.length - 1 := by
    show (if (-1 : Int) < 0 then ((-1 : Int) + (xs.length : Int)).toNat else min (-1 : Int).toNat xs.length) = _
    rw [if_pos (by decide)]; omega
  rw [e, List.dropLast_eq_take]; simp
abbrev natV (ls : List Nat) : List V := ls.map fun (n : Nat) => V.int n
theorem natV_dropLast (a : List Nat) : (natV a).dropLast = natV a.dropLast := by
  unfold natV; rw [List.map_dropLast]
theorem at_lastN {a : List Nat} (h : 0 < a.length) : atI (natV a) (-1) = some (.int (a.getLastD 0 : Nat)) := by
  rcases List.eq_nil_or_concat a with e | ⟨b, x, e⟩
  · subst e; simp at h
  · rw [List.concat_eq_append] at e
    subst e
    have e1 : natV (b ++ [x]) = natV b ++ [V.int x] := by unfold natV; rw [List.map_append]; rfl
    rw [e1, atI_last]
    simp
theorem at_headN {a : List Nat} (h : 0 < a.length) : (natV a)[0]? = some (.int (a.headD 0 : Nat)) := by
  cases a with
  | nil => simp at h
  | cons x a => rfl
section
variable {P : Program} {w : World} {K : PySem.W.Frag} {mg : Str → Option Value} {base : Heap} {D : Ads}
def spRowAt (K : PySem.W.Frag) (D : Ads) : Sp := fun vs H Q _ => ∃ (v : V) (la : Addr) (lv : Lvl) (wd : List Int) (ls : List Nat), vs = [v, .ref la] ∧ LevAt K D H v lv ∧ SqL K H la (natV ls) ∧ LevOf wd lv.2 ∧ wd.length ≤ 4 ∧ ls.length = lv.2.way.length ∧ ls.sum ≤ 2097152 ∧
  ∀ H' p a1 a2, Same H H' → SqT K H' p [.ref a1, .ref a2] → H' a1 = some (.lst ((rowAt (same lv.1) lv.2 ls).1.map V.int)) → H' a2 = some (.lst (natV (rowAt (same lv.1) lv.2 ls).2)) → Q (.ref p) H'
theorem ok_rowAt (T : Txt K mg D) : FnOk P w K mg base CX0 1 (D.d 51).f (D.d 51).fd ["level", "lengths"] (spRowAt K D) := by
  refine T.w51.F.ok scRowAt (fun vs H Q E h => ?_) (fun cdv A outer s H vs Q E hr h => ?_)
  · obtain ⟨_, _, _, _, _, rfl, _⟩ := h
    rfl
  · obtain ⟨v, la, lv, wd, ls, rfl, hlv, hls, hof, hw4, hll, hsum, k⟩ := h
    refine ⟨_, (pss_cons (ps_asg (pe_fld (pv 0) (by rfl)) (pg_tup (by rfl) (pgs_cons (pg_name (i := 5) scRowAt.nd rfl (by first | exact Or.inl rfl | exact Or.inr rfl)) (pgs_cons (pg_name (i := 6) scRowAt.nd rfl (by first | exact Or.inl rfl | exact Or.inr rfl)) (pgs_cons (pg_name (i := 7) scRowAt.nd rfl (by first | exact Or.inl rfl | exact Or.inr rfl)) pgs_nil)))))
      (pss_cons (ps_set (i := 2) scRowAt.nd rfl (by first | exact Or.inl rfl | exact Or.inr rfl) (pe_ifExp (pt_val (pe_fld (pv 0) (by rfl))) (pv 6) (pe_revT (pv 6))))
      (pss_cons (ps_setLc2 (i := 3) (own := [("many", 10), ("one", 11), ("other", 12), ("sign", 13)]) (vs1 := [13]) (by rfl) scRowAt.nd rfl rfl (sw_true rfl rfl rfl (by decide +kernel)) (pi_zipM true false (by rfl) T.zip (pa_cons (pe_fld (pv 0) (by rfl)) (pa_cons (pv 1) pa_nil))) (blkOk_by (own := [("many", 10), ("one", 11), ("other", 12), ("sign", 13)]) (N := ["level", "lengths", "turned", "first", "second", "left", "right", "is_within", "sizes", "late", "many", "one", "other", "sign"]) (sc := defScope sRowAt) (by decide +kernel)) (by decide) (fun _ _ _ _ _ => (pg_tupK (n := 2) K (by rfl) (by rfl) (pgs_cons (pg_tupK (n := 2) K (by rfl) (by rfl) (pgs_cons (pg_name (i := 11) scRowAt.nd rfl (by first | exact Or.inl rfl | exact Or.inr rfl)) (pgs_cons (pg_name (i := 12) scRowAt.nd rfl (by first | exact Or.inl rfl | exact Or.inr rfl)) pgs_nil))) (pgs_cons (pg_name (i := 10) scRowAt.nd rfl (by first | exact Or.inl rfl | exact Or.inr rfl)) pgs_nil)))) (fun _ _ _ _ _ => pts_nil) (fun _ _ _ _ _ => (pi_listK K (by rfl) (pe_op op_rep (pe_lst (pa_cons (pe_ix (ix_tupK K (by rfl)) (pv 5) (pv 11) (fun _ _ => rfl)) pa_nil)) (pv 10)))) (fun _ _ _ _ _ => (pg_name (i := 13) scRowAt.nd rfl (by first | exact Or.inl rfl | exact Or.inr rfl))) (fun _ _ _ _ _ => pts_nil) (fun _ _ _ _ _ => (pv 13)))
      (pss_cons (ps_setLc2 (i := 4) (own := [("many", 10), ("one", 11), ("other", 12), ("sign", 13)]) (vs1 := [13]) (by rfl) scRowAt.nd rfl rfl (sw_true rfl rfl rfl (by decide +kernel)) (pi_zipM true false (by rfl) T.zip (pa_cons (pe_fld (pv 0) (by rfl)) (pa_cons (pv 1) pa_nil))) (blkOk_by (own := [("many", 10), ("one", 11), ("other", 12), ("sign", 13)]) (N := ["level", "lengths", "turned", "first", "second", "left", "right", "is_within", "sizes", "late", "many", "one", "other", "sign"]) (sc := defScope sRowAt) (by decide +kernel)) (by decide) (fun _ _ _ _ _ => (pg_tupK (n := 2) K (by rfl) (by rfl) (pgs_cons (pg_tupK (n := 2) K (by rfl) (by rfl) (pgs_cons (pg_name (i := 11) scRowAt.nd rfl (by first | exact Or.inl rfl | exact Or.inr rfl)) (pgs_cons (pg_name (i := 12) scRowAt.nd rfl (by first | exact Or.inl rfl | exact Or.inr rfl)) pgs_nil))) (pgs_cons (pg_name (i := 10) scRowAt.nd rfl (by first | exact Or.inl rfl | exact Or.inr rfl)) pgs_nil)))) (fun _ _ _ _ _ => pts_nil) (fun _ _ _ _ _ => (pi_listK K (by rfl) (pe_op op_rep (pe_lst (pa_cons (pe_ix (ix_tupK K (by rfl)) (pv 2) (pv 12) (fun _ _ => rfl)) pa_nil)) (pv 10)))) (fun _ _ _ _ _ => (pg_name (i := 13) scRowAt.nd rfl (by first | exact Or.inl rfl | exact Or.inr rfl))) (fun _ _ _ _ _ => pts_nil) (fun _ _ _ _ _ => (pv 13)))
      (pss_cons (ps_par (i := 8) (j := 9) (by rfl) scRowAt.nd rfl rfl (by decide) rfl rfl (pa_cons (pe_op op_rep (pe_lst (pa_cons pe_int pa_nil)) (pe_callB call_len_seq (by rfl) T.len boot_len (pa_cons (pv 5) pa_nil))) (pa_cons (pe_op op_rep (pe_lst (pa_cons pe_int pa_nil)) (pe_callB call_len_seq (by rfl) T.len boot_len (pa_cons (pv 6) pa_nil))) pa_nil)) (by rfl))
      (pss_cons (ps_for PassesOwn.never rfl (pi_zipM true false (by rfl) T.zip (pa_cons (pe_fld (pv 0) (by rfl)) (pa_cons (pv 1) pa_nil))) (pg_tup (by rfl) (pgs_cons (pg_tup (by rfl) (pgs_cons (pg_name (i := 11) scRowAt.nd rfl (by first | exact Or.inl rfl | exact Or.inr rfl)) (pgs_cons (pg_name (i := 12) scRowAt.nd rfl (by first | exact Or.inl rfl | exact Or.inr rfl)) pgs_nil))) (pgs_cons (pg_name (i := 10) scRowAt.nd rfl (by first | exact Or.inl rfl | exact Or.inr rfl)) pgs_nil))) (pss_cons (ps_augS (pv 8) (pv 11) get_list (pv 10) ip_add set_list)
      (pss_one (ps_augS (pv 9) (pv 12) get_list (pv 10) ip_add set_list))))
      (pss_cons (ps_if (pt_not (pt_val (pe_fld (pv 0) (by rfl)))) (pss_one (ps_par (i := 4) (j := 9) (by rfl) scRowAt.nd rfl rfl (by decide) rfl rfl (pa_cons (pe_revL (pv 4)) (pa_cons (pe_revL (pv 9)) pa_nil)) (by rfl))) pss_nil)
      (pss_cons (ps_if (pt_val (pv 7)) (pss_one (ps_set (i := 8) scRowAt.nd rfl (by first | exact Or.inl rfl | exact Or.inr rfl) (pe_lst (StX.pa_star (pe_slice sl_list (pv 8) po_none (po_some (pe_un un_neg pe_int))) (pa_cons (pe_op op_add (pe_ix ix_list (pv 8) (pe_un un_neg pe_int) (fun _ _ => rfl)) (pe_ix ix_list (pv 9) pe_int (fun _ _ => rfl))) (StX.pa_star (pe_slice sl_list (pv 9) (po_some pe_int) po_none) pa_nil)))))) (pss_one (ps_set (i := 8) scRowAt.nd rfl (by first | exact Or.inl rfl | exact Or.inr rfl) (pe_lst (StX.pa_star (pv 8) (StX.pa_star (pv 9) pa_nil))))))
      (pss_one (ps_ret (pe_tup (pa_cons (pe_lst (StX.pa_star (pv 3) (StX.pa_star (pv 4) pa_nil))) (pa_cons (pv 8) pa_nil))))))))))))), ?_⟩
    obtain ⟨a, hv, wv, n, dx, fs, pl, pr, pt, rfl, hI, hh, hw⟩ := hlv
    obtain ⟨hp, lla, rra, rfl, hh1, hh2, hh3⟩ := halves_get hh
    obtain ⟨wp, wxs, rfl, hwp, hwx⟩ := hw.tuple
    have hwl : wxs.length = lv.2.way.length := by rw [hwx.length]; simp
    have zl : sizeLine = 16777216 := sizeLine_eq
    generalize hsm : same lv.1 = sm at hI k
    -- left, right, is_within
    refine ⟨_, rfl, a, D.level, dx, fs, .ref hp, rfl, hI.ins, T.levelC, T.lN "halves", hI.halves, hp, _, rfl, hh1, rfl, _, _, rfl, _, _, rfl, _, _, rfl, rfl, ?_⟩
    -- turned
    dsimp only
    refine seq_asg (right_join sm (fun G q => ⟨_, rfl, a, D.level, dx, fs, .bl sm, rfl, hI.ins, T.levelC, T.lN "is_same", hI.same, sm, rfl, q⟩) hh3 (fun G q => ⟨_, rfl, q⟩) fun rr H1 s1 hrr => ?_)
    have cl_first : ((cols sm lv.2).map Prod.fst).length = ls.length := by simp [cols, hll]
    have cl_second : ((cols sm lv.2).map Prod.snd).length = ls.length := by simp [cols, hll]
    refine gn_st (σ' := [some (V.ref a), some (.ref la), some (.ref rr), none, none, some (.ref lla), some (.ref rra), some (.bl lv.2.win), none, none, none, none, none, none]) rfl ?_
    -- first
    refine ⟨_, rfl, a, D.level, dx, fs, .ref wp, rfl, s1 _ _ hI.ins, T.levelC, T.lN "way", hI.way, _, rfl, wp, la, wxs, _, rfl, tupS s1 hwp, s1.seq hls, fun D1 hD1 => ?_⟩
    refine lc2_it (walk_zipM (k1 := true) (k2 := false) (K := K) (a := wp) (b := la) (xs := wxs) (ys := natV ls) (n := ls.length) (by rw [hwl, List.length_map]; omega))
      (fun i Hx => Same H1 Hx ∧ Hx D1 = some (.lst ((expand (((cols sm lv.2).map Prod.fst).take i) (ls.take i)).map V.int))) ⟨same_new hD1, upd_same⟩ (fun i Hx _ h => ⟨tupS (s1.trans h.1) hwp, (s1.trans h.1).seq hls⟩) ?_ ?_
    · rintro i x Hx Hy hi ⟨hS, hD⟩ ⟨Tt, x1, y1, rfl, hT, rfl, e1, e2⟩
      have e2 : (natV ls)[i]? = some y1 := e2
      rw [List.getElem?_map] at e2
      obtain ⟨n, en, rfl⟩ := Option.map_eq_some_iff.mp e2
      obtain ⟨pr, ap, ep, rfl, hap⟩ := way_item hwx e1
      have sT := same_new (o := .tup [.ref ap, .int (n : Nat)]) hT
      have hbd := hof.2.bd pr (List.mem_of_getElem? ep)
      have ecw : ((cols sm lv.2).map Prod.fst)[i]? = some (lv.2.lw.getD pr.1 0) := by
        show (((lv.2.way.map fun p => (lv.2.lw.getD p.1 0, (flipIf (!sm) lv.2.rw).getD p.2 0))).map Prod.fst)[i]? = _
        rw [List.getElem?_map, List.getElem?_map, ep]; rfl
      have esn : expand (((cols sm lv.2).map Prod.fst).take (i + 1)) (ls.take (i + 1)) = expand (((cols sm lv.2).map Prod.fst).take i) (ls.take i) ++ List.replicate n (lv.2.lw.getD pr.1 0) := by
        rw [List.take_add_one, List.take_add_one, ecw, en]
        exact expand_snoc _ _ _ _ (by rw [List.length_take, List.length_take, cl_first])
      have hb1 := expand_take_len ((cols sm lv.2).map Prod.fst) ls (i + 1) cl_first
      rw [esn, List.length_append, List.length_replicate] at hb1
      have nD : D1 ≠ Tt := ne_of_none hD hT
      refine ⟨Tt, _, rfl, SqT.of upd_same, rfl, _, _, rfl, ap, _, rfl, tupS ((s1.trans hS).trans sT) hap, rfl, _, _, rfl, _, _, rfl, rfl, _, _, rfl, rfl, rfl, ?_⟩
      refine ⟨_, rfl, _, rfl, lla, _, _, .int (lv.2.lw.getD pr.1 0), rfl, rfl, tupS (hS.trans sT) (tupS s1 hh2), at_of (j := pr.1) rfl ?_, small1, fun q hq => ?_⟩
      · rw [List.getElem?_map, getD_at (by first | exact hbd.1 | (rw [length_flipIf]; exact hbd.1))]; rfl
      have s1 := same_new (o := .lst [.int (lv.2.lw.getD pr.1 0)]) hq
      refine ⟨_, rfl, q, _, _, rfl, rfl, upd_same, by omega, by omega, by rw [Int.toNat_natCast]; show 1 * n ≤ sizeLine; omega, fun p hp => ?_⟩
      rw [Int.toNat_natCast, rep_flat]
      have s2 := same_new (o := .lst (List.replicate n (V.int (lv.2.lw.getD pr.1 0)))) hp
      have sX := (sT.trans s1).trans s2
      refine ⟨p, rfl, ⟨_, SqL.of upd_same⟩, ?_⟩
      have hDx := sX _ _ hD
      have npD : p ≠ D1 := fun e => by
        have := (sT.trans s1) _ _ hD
        rw [← e, hp] at this; cases this
      have nHD : H1 D1 = none := hD1
      refine in_it (walk_list (K := K) (a := p) (xs := List.replicate n (V.int (lv.2.lw.getD pr.1 0)))) (fun j Hz => Same H1 Hz ∧ Hz D1 = some (.lst ((expand (((cols sm lv.2).map Prod.fst).take i) (ls.take i) ++ List.replicate j (lv.2.lw.getD pr.1 0)).map V.int)) ∧ Hz p = some (.lst (List.replicate n (V.int (lv.2.lw.getD pr.1 0)))))
        ⟨hS.trans sX, by rw [List.replicate_zero, List.append_nil]; exact hDx, upd_same⟩ (fun j Hz _ h => SqL.of h.2.2) ?_ ?_
      · rintro j z Ha Hb hj ⟨g1, g2, g3⟩ ⟨rfl, ez⟩
        rw [List.length_replicate] at hj
        rw [List.getElem?_replicate, if_pos hj] at ez
        cases Option.some.inj ez
        refine ⟨rfl, _, rfl, _, g2, ?_, same_upd_new g1 nHD, ?_, by rw [upd_ne npD]; exact g3⟩
        · rw [List.length_map, List.length_append, List.length_replicate]; omega
        · rw [upd_same, List.replicate_succ', ← List.append_assoc]
          simp only [List.map_append, List.map_cons, List.map_nil]
      · rintro Hz ⟨g1, g2, g3⟩
        rw [List.length_replicate] at g2
        exact ⟨g1, by rw [esn]; exact g2⟩
    rintro H2 ⟨s2, d1⟩
    rw [List.take_of_length_le (by omega), List.take_of_length_le (Nat.le_refl _)] at d1
    have s12 := s1.trans s2
    refine gn_st (σ' := [some (V.ref a), some (.ref la), some (.ref rr), some (.ref D1), none, some (.ref lla), some (.ref rra), some (.bl lv.2.win), none, none, none, none, none, none]) rfl ?_
    -- second
    refine ⟨_, rfl, a, D.level, dx, fs, .ref wp, rfl, s12 _ _ hI.ins, T.levelC, T.lN "way", hI.way, _, rfl, wp, la, wxs, _, rfl, tupS s12 hwp, s12.seq hls, fun D2 hD2 => ?_⟩
    refine lc2_it (walk_zipM (k1 := true) (k2 := false) (K := K) (a := wp) (b := la) (xs := wxs) (ys := natV ls) (n := ls.length) (by rw [hwl, List.length_map]; omega))
      (fun i Hx => Same H2 Hx ∧ Hx D2 = some (.lst ((expand (((cols sm lv.2).map Prod.snd).take i) (ls.take i)).map V.int))) ⟨same_new hD2, upd_same⟩ (fun i Hx _ h => ⟨tupS (s12.trans h.1) hwp, (s12.trans h.1).seq hls⟩) ?_ ?_
    · rintro i x Hx Hy hi ⟨hS, hD⟩ ⟨Tt, x1, y1, rfl, hT, rfl, e1, e2⟩
      have e2 : (natV ls)[i]? = some y1 := e2
      rw [List.getElem?_map] at e2
      obtain ⟨n, en, rfl⟩ := Option.map_eq_some_iff.mp e2
      obtain ⟨pr, ap, ep, rfl, hap⟩ := way_item hwx e1
      have sT := same_new (o := .tup [.ref ap, .int (n : Nat)]) hT
      have hbd := hof.2.bd pr (List.mem_of_getElem? ep)
      have ecw : ((cols sm lv.2).map Prod.snd)[i]? = some ((flipIf (!sm) lv.2.rw).getD pr.2 0) := by
        show (((lv.2.way.map fun p => (lv.2.lw.getD p.1 0, (flipIf (!sm) lv.2.rw).getD p.2 0))).map Prod.snd)[i]? = _
        rw [List.getElem?_map, List.getElem?_map, ep]; rfl
      have esn : expand (((cols sm lv.2).map Prod.snd).take (i + 1)) (ls.take (i + 1)) = expand (((cols sm lv.2).map Prod.snd).take i) (ls.take i) ++ List.replicate n ((flipIf (!sm) lv.2.rw).getD pr.2 0) := by
        rw [List.take_add_one, List.take_add_one, ecw, en]
        exact expand_snoc _ _ _ _ (by rw [List.length_take, List.length_take, cl_second])
      have hb1 := expand_take_len ((cols sm lv.2).map Prod.snd) ls (i + 1) cl_second
      rw [esn, List.length_append, List.length_replicate] at hb1
      have nD : D2 ≠ Tt := ne_of_none hD hT
      refine ⟨Tt, _, rfl, SqT.of upd_same, rfl, _, _, rfl, ap, _, rfl, tupS ((s12.trans hS).trans sT) hap, rfl, _, _, rfl, _, _, rfl, rfl, _, _, rfl, rfl, rfl, ?_⟩
      refine ⟨_, rfl, _, rfl, rr, _, _, .int ((flipIf (!sm) lv.2.rw).getD pr.2 0), rfl, rfl, tupS (hS.trans sT) (tupS s2 hrr), at_of (j := pr.2) rfl ?_, small1, fun q hq => ?_⟩
      · rw [List.getElem?_map, getD_at (by first | exact hbd.2 | (rw [length_flipIf]; exact hbd.2))]; rfl
      have s1 := same_new (o := .lst [.int ((flipIf (!sm) lv.2.rw).getD pr.2 0)]) hq
      refine ⟨_, rfl, q, _, _, rfl, rfl, upd_same, by omega, by omega, by rw [Int.toNat_natCast]; show 1 * n ≤ sizeLine; omega, fun p hp => ?_⟩
      rw [Int.toNat_natCast, rep_flat]
      have s2 := same_new (o := .lst (List.replicate n (V.int ((flipIf (!sm) lv.2.rw).getD pr.2 0)))) hp
      have sX := (sT.trans s1).trans s2
      refine ⟨p, rfl, ⟨_, SqL.of upd_same⟩, ?_⟩
      have hDx := sX _ _ hD
      have npD : p ≠ D2 := fun e => by
        have := (sT.trans s1) _ _ hD
        rw [← e, hp] at this; cases this
      have nHD : H2 D2 = none := hD2
      refine in_it (walk_list (K := K) (a := p) (xs := List.replicate n (V.int ((flipIf (!sm) lv.2.rw).getD pr.2 0)))) (fun j Hz => Same H2 Hz ∧ Hz D2 = some (.lst ((expand (((cols sm lv.2).map Prod.snd).take i) (ls.take i) ++ List.replicate j ((flipIf (!sm) lv.2.rw).getD pr.2 0)).map V.int)) ∧ Hz p = some (.lst (List.replicate n (V.int ((flipIf (!sm) lv.2.rw).getD pr.2 0)))))
        ⟨hS.trans sX, by rw [List.replicate_zero, List.append_nil]; exact hDx, upd_same⟩ (fun j Hz _ h => SqL.of h.2.2) ?_ ?_
      · rintro j z Ha Hb hj ⟨g1, g2, g3⟩ ⟨rfl, ez⟩
        rw [List.length_replicate] at hj
        rw [List.getElem?_replicate, if_pos hj] at ez
        cases Option.some.inj ez
        refine ⟨rfl, _, rfl, _, g2, ?_, same_upd_new g1 nHD, ?_, by rw [upd_ne npD]; exact g3⟩
        · rw [List.length_map, List.length_append, List.length_replicate]; omega
        · rw [upd_same, List.replicate_succ', ← List.append_assoc]
          simp only [List.map_append, List.map_cons, List.map_nil]
      · rintro Hz ⟨g1, g2, g3⟩
        rw [List.length_replicate] at g2
        exact ⟨g1, by rw [esn]; exact g2⟩
    rintro H3 ⟨s3, d2⟩
    rw [List.take_of_length_le (by omega), List.take_of_length_le (Nat.le_refl _)] at d2
    have s13 := s12.trans s3
    have d1 := s3 _ _ d1
    refine gn_st (σ' := [some (V.ref a), some (.ref la), some (.ref rr), some (.ref D1), some (.ref D2), some (.ref lla), some (.ref rra), some (.bl lv.2.win), none, none, none, none, none, none]) rfl ?_
    -- sizes, late
    refine ⟨small1, fun q1 hq1 => ?_⟩
    have t1 := same_new (o := .lst [.int 0]) hq1
    have hlen8 : lv.2.lw.length + lv.2.rw.length ≤ 5 ∧ 0 < lv.2.lw.length ∧ 0 < lv.2.rw.length := by have := hof.1.pos; omega
    obtain ⟨hlen8, hlw0, hrw0⟩ := hlen8
    refine ⟨_, rfl, _, _, rfl, .inr (tupS (s13.trans t1) hh2), q1, _, _, rfl, rfl, upd_same, by omega, by rw [List.length_map]; omega, by rw [List.length_map, Int.toNat_natCast]; show 1 * _ ≤ _; omega, fun S1 hS1 => ?_⟩
    rw [Int.toNat_natCast, List.length_map, rep_flat]
    have t2 := same_new (o := .lst (List.replicate lv.2.lw.length (V.int 0))) hS1
    refine ⟨small1, fun q2 hq2 => ?_⟩
    have t3 := same_new (o := .lst [.int 0]) hq2
    refine ⟨_, rfl, _, _, rfl, .inr (tupS (((s13.trans t1).trans t2).trans t3) hh3), q2, _, _, rfl, rfl, upd_same, by omega, by rw [List.length_map]; omega, by rw [List.length_map, Int.toNat_natCast]; show 1 * _ ≤ _; omega, fun S2 hS2 => ?_⟩
    rw [Int.toNat_natCast, List.length_map, rep_flat]
    have t4 := same_new (o := .lst (List.replicate lv.2.rw.length (V.int 0))) hS2
    have tA := ((t1.trans t2).trans t3).trans t4
    have g1 := t4 _ _ (t3 _ _ (upd_same (H := upd H3 q1 (.lst [.int 0])) (a := S1) (o := HO.lst (List.replicate lv.2.lw.length (V.int 0)))))
    have g2 := upd_same (H := upd (upd (upd H3 q1 (.lst [.int 0])) S1 (.lst (List.replicate lv.2.lw.length (V.int 0)))) q2 (.lst [.int 0])) (a := S2) (o := HO.lst (List.replicate lv.2.rw.length (V.int 0)))
    have n31 : H3 S1 = none := by
      cases q : H3 S1 with
      | none => rfl
      | some u => rw [t1 _ _ q] at hS1; cases hS1
    have n32 : H3 S2 = none := by
      cases q : H3 S2 with
      | none => rfl
      | some u => rw [((t1.trans t2).trans t3) _ _ q] at hS2; cases hS2
    have n12 : S1 ≠ S2 := ne_of_none (t3 _ _ (upd_same (H := upd H3 q1 (.lst [.int 0])) (a := S1) (o := HO.lst (List.replicate lv.2.lw.length (V.int 0))))) hS2
    generalize upd (upd (upd (upd H3 q1 (.lst [.int 0])) S1 (.lst (List.replicate lv.2.lw.length (V.int 0)))) q2 (.lst [.int 0])) S2 (.lst (List.replicate lv.2.rw.length (V.int 0))) = H4 at tA g1 g2 ⊢
    refine ⟨_, _, rfl, ?_⟩
    dsimp only
    refine at_st (σ' := [some (V.ref a), some (.ref la), some (.ref rr), some (.ref D1), some (.ref D2), some (.ref lla), some (.ref rra), some (.bl lv.2.win), some (.ref S1), some (.ref S2), none, none, none, none]) rfl ?_
    have s14 := s13.trans tA
    have er0 : ∀ m : Nat, List.replicate m (V.int 0) = natV (tal m (([] : List (Nat × Nat)).map Prod.fst) []) := fun m => by
      rw [List.map_nil, tal_nil]; unfold natV; rw [List.map_replicate]; rfl
    -- the sums
    refine ⟨_, rfl, a, D.level, dx, fs, .ref wp, rfl, s14 _ _ hI.ins, T.levelC, T.lN "way", hI.way, _, rfl, wp, la, wxs, _, rfl, tupS s14 hwp, s14.seq hls, ?_⟩
    refine for_it (walk_zipM (k1 := true) (k2 := false) (K := K) (a := wp) (b := la) (xs := wxs) (ys := natV ls) (n := ls.length) (by rw [hwl, List.length_map]; omega))
      (fun i σ Hx => ∃ z1 z2 z3, σ = [some (V.ref a), some (.ref la), some (.ref rr), some (.ref D1), some (.ref D2), some (.ref lla), some (.ref rra), some (.bl lv.2.win), some (.ref S1), some (.ref S2), z1, z2, z3, none] ∧ Same H3 Hx ∧ Hx S1 = some (.lst (natV (tal lv.2.lw.length ((lv.2.way.take i).map Prod.fst) (ls.take i)))) ∧ Hx S2 = some (.lst (natV (tal lv.2.rw.length ((lv.2.way.take i).map Prod.snd) (ls.take i)))))
      ⟨none, none, none, rfl, tA, by rw [g1, er0]; rfl, by rw [g2, er0]; rfl⟩ (fun i σ Hx _ ⟨_, _, _, _, h, _⟩ => ⟨tupS (s13.trans h) hwp, (s13.trans h).seq hls⟩) ?_ ?_
    · rintro i x σ Hx Hy hi ⟨z1, z2, z3, rfl, hS, f1, f2⟩ ⟨Tt, x1, y1, rfl, hT, rfl, e1, e2⟩
      have e2 : (natV ls)[i]? = some y1 := e2
      rw [List.getElem?_map] at e2
      obtain ⟨n, en, rfl⟩ := Option.map_eq_some_iff.mp e2
      obtain ⟨pr, ap, ep, rfl, hap⟩ := way_item hwx e1
      have sT := same_new (o := .tup [.ref ap, .int (n : Nat)]) hT
      have hbd := hof.2.bd pr (List.mem_of_getElem? ep)
      have f1' := sT _ _ f1
      have f2' := sT _ _ f2
      have l12 : ((lv.2.way.take i).map Prod.fst).length = (ls.take i).length := by rw [List.length_map, List.length_take, List.length_take, hll]
      have l12' : ((lv.2.way.take i).map Prod.snd).length = (ls.take i).length := by rw [List.length_map, List.length_take, List.length_take, hll]
      have nat_get : ∀ (m j : Nat) (l ls : List Nat), j < m → (natV (tal m l ls))[j]? = some (.int (sumAt j l ls : Nat)) := fun m j l ls h => by
        rw [List.getElem?_map, tal_get h]; rfl
      have nat_set : ∀ (m j n : Nat) (l ls : List Nat), l.length = ls.length → (natV (tal m l ls)).set j (.int (((sumAt j l ls : Nat) : Int) + (n : Int))) = natV (tal m (l ++ [j]) (ls ++ [n])) := fun m j n l ls h => by
        rw [← tal_set h]; unfold natV; rw [List.map_set]; rfl
      have nat_len : ∀ (m : Nat) (l ls : List Nat), (natV (tal m l ls)).length = m := fun m l ls => by rw [List.length_map, tal_len]
      have et : ls.take (i + 1) = ls.take i ++ [n] := by rw [List.take_add_one, en]; rfl
      have ew : lv.2.way.take (i + 1) = lv.2.way.take i ++ [pr] := by rw [List.take_add_one, ep]; rfl
      refine ⟨Tt, _, rfl, SqT.of upd_same, rfl, _, _, rfl, ap, _, rfl, tupS ((s13.trans hS).trans sT) hap, rfl, _, _, rfl, _, _, rfl, rfl, _, _, rfl, rfl, ?_⟩
      refine ⟨_, rfl, _, rfl, S1, _, pr.1, _, rfl, rfl, f1', nat_get _ _ _ _ hbd.1, _, rfl, _, _, rfl, rfl, S1, _, _, pr.1, rfl, rfl, f1', ixN_of (by rw [nat_len]; exact hbd.1), ?_⟩
      refine ⟨_, rfl, _, rfl, S2, _, pr.2, _, rfl, rfl, by rw [upd_ne (Ne.symm n12)]; exact f2', nat_get _ _ _ _ hbd.2, _, rfl, _, _, rfl, rfl, S2, _, _, pr.2, rfl, rfl, by rw [upd_ne (Ne.symm n12)]; exact f2', ixN_of (by rw [nat_len]; exact hbd.2), ?_⟩
      refine ⟨_, _, _, rfl, ?_, ?_, ?_⟩
      · exact same_upd_new (same_upd_new (hS.trans sT) n31) n32
      · rw [upd_ne n12, upd_same, nat_set _ _ _ _ _ l12, et, ew, List.map_append]; rfl
      · rw [upd_same, nat_set _ _ _ _ _ l12', et, ew, List.map_append]; rfl
    rintro σ Hx ⟨z1, z2, z3, rfl, hS, f1, f2⟩
    rw [List.take_of_length_le (show lv.2.way.length ≤ ls.length by omega), List.take_of_length_le (Nat.le_refl _)] at f1 f2
    have sX := s13.trans hS
    have c1 := hS _ _ d1
    have c2 := hS _ _ d2
    generalize hA : tal lv.2.lw.length (lv.2.way.map Prod.fst) ls = TA at f1
    generalize hB : tal lv.2.rw.length (lv.2.way.map Prod.snd) ls = TB at f2
    have lA : TA.length = lv.2.lw.length := by rw [← hA, tal_len]
    have lB : TB.length = lv.2.rw.length := by rw [← hB, tal_len]
    generalize hF : expand ((cols sm lv.2).map Prod.fst) ls = FA at c1 d1
    generalize hG : expand ((cols sm lv.2).map Prod.snd) ls = FB at c2 d2
    -- not the same
    refine ⟨_, rfl, a, D.level, dx, fs, .bl sm, rfl, sX _ _ hI.ins, T.levelC, T.lN "is_same", hI.same, sm, rfl, ?_⟩
    refine ite_join (fun (x : Addr × Addr) σ2 H5 => σ2 = [some (V.ref a), some (.ref la), some (.ref rr), some (.ref D1), some (.ref x.1), some (.ref lla), some (.ref rra), some (.bl lv.2.win), some (.ref S1), some (.ref x.2), z1, z2, z3, none] ∧ Same H H5 ∧ H5 D1 = some (.lst (FA.map V.int)) ∧ H5 x.1 = some (.lst ((flipIf (!sm) FB).map V.int)) ∧ H5 S1 = some (.lst (natV TA)) ∧ H5 x.2 = some (.lst (natV (flipIf (!sm) TB)))) (fun NX hNX => ?_) ?_
    · cases sm with
      | true => exact iteF (hNX (D2, S2) _ _ ⟨rfl, sX, c1, c2, f1, f2⟩)
      | false =>
        refine iteT ⟨_, rfl, D2, _, rfl, SqL.of c2, fun p1 hp1 => ?_⟩
        have u1 := same_new (o := .lst (FB.map V.int).reverse) hp1
        refine ⟨_, rfl, S2, _, rfl, SqL.of (u1 _ _ f2), fun p2 hp2 => ⟨_, _, rfl, ?_⟩⟩
        have u2 := same_new (o := .lst (natV TB).reverse) hp2
        refine hNX (p1, p2) _ _ ⟨rfl, sX.trans (u1.trans u2), u2 _ _ (u1 _ _ c1), ?_, u2 _ _ (u1 _ _ f1), ?_⟩
        · rw [u2 _ _ upd_same, List.map_reverse.symm]; rfl
        · rw [upd_same]; unfold natV; rw [List.map_reverse.symm]; rfl
    rintro ⟨B2, E2⟩ _ H5 ⟨rfl, sH5, k1, k2, k3, k4⟩
    have lBf : (flipIf (!sm) TB).length = lv.2.rw.length := by rw [length_flipIf]; exact lB
    -- within or not
    refine ⟨_, rfl, lv.2.win, rfl, ?_⟩
    refine ite_join (fun (x : Addr) σ2 H6 => σ2 = [some (V.ref a), some (.ref la), some (.ref rr), some (.ref D1), some (.ref B2), some (.ref lla), some (.ref rra), some (.bl lv.2.win), some (.ref x), some (.ref E2), z1, z2, z3, none] ∧ Same H5 H6 ∧ H6 x = some (.lst (natV (joinS lv.2.win TA (flipIf (!sm) TB))))) (fun NX hNX => ?_) ?_
    · cases hwin : lv.2.win with
      | true =>
        refine iteT ⟨_, rfl, 1, rfl, _, rfl, slL_of (SqL.of k3) (cut_lastV _) fun p1 H6 v1 h1 => ?_⟩
        refine ⟨p1, _, rfl, .inr h1, ?_⟩
        refine ⟨_, rfl, 1, rfl, S1, natV TA, _, .int (TA.getLastD 0 : Nat), rfl, rfl, v1.seq (SqL.of k3), at_lastN (by omega), ?_⟩
        refine ⟨_, rfl, E2, natV (flipIf (!sm) TB), _, .int ((flipIf (!sm) TB).headD 0 : Nat), rfl, rfl, v1.seq (SqL.of k4), at_of (j := 0) rfl (at_headN (by omega)), _, _, rfl, rfl, ?_⟩
        refine ⟨_, rfl, _, rfl, no_part (slL_of (v1.seq (SqL.of k4)) (cut_drop (v := 1) 1 rfl) fun p2 H7 v2 h2 => ⟨p2, _, rfl, .inr h2, ?_, fun q hq => ?_⟩)⟩
        · rw [List.append_nil, List.length_append, List.length_cons, List.length_dropLast, List.length_drop, List.length_map, List.length_map]; omega
        · refine hNX q _ _ ⟨by rw [hwin]; rfl, (v1.trans v2).trans (same_new hq), ?_⟩
          rw [upd_same]
          refine congrArg (fun l => some (HO.lst l)) ?_
          rw [hwin]
          show (natV TA).dropLast ++ (V.int (((TA.getLastD 0 : Nat) : Int) + (((flipIf (!sm) TB).headD 0 : Nat) : Int)) :: ((natV (flipIf (!sm) TB)).drop 1 ++ [])) = natV (joinS true TA (flipIf (!sm) TB))
          rw [List.append_nil, natV_dropLast, List.drop_one]
          show _ = natV (TA.dropLast ++ (TA.getLastD 0 + (flipIf (!sm) TB).headD 0) :: (flipIf (!sm) TB).tail)
          unfold natV
          rw [List.map_append, List.map_cons, List.map_tail]; rfl
      | false =>
        refine iteF ⟨_, rfl, S1, _, rfl, .inr (SqL.of k3), _, rfl, E2, _, rfl, .inr (SqL.of k4), ?_, fun q hq => ?_⟩
        · rw [List.append_nil, List.length_append, List.length_map, List.length_map]; omega
        · refine hNX q _ _ ⟨by rw [hwin]; rfl, same_new hq, ?_⟩
          rw [upd_same]
          refine congrArg (fun l => some (HO.lst l)) ?_
          rw [hwin]
          show natV TA ++ (natV (flipIf (!sm) TB) ++ []) = natV (TA ++ flipIf (!sm) TB)
          rw [List.append_nil]; unfold natV; rw [List.map_append]
    rintro E3 _ H6 ⟨rfl, s6, k5⟩
    have lF : FA.length = ls.sum := by rw [← hF, expand_length _ _ cl_first]
    have lG : FB.length = ls.sum := by rw [← hG, expand_length _ _ cl_second]
    refine ⟨_, rfl, D1, _, rfl, .inr (SqL.of (s6 _ _ k1)), _, rfl, B2, _, rfl, .inr (SqL.of (s6 _ _ k2)), ?_, fun q hq => ?_⟩
    · rw [List.append_nil, List.length_append, List.length_map, List.length_map, length_flipIf]; omega
    have w1 := same_new (o := .lst (FA.map V.int ++ ((flipIf (!sm) FB).map V.int ++ []))) hq
    refine ⟨_, rfl, small2, fun t ht => ?_⟩
    have w2 := same_new (o := .tup [.ref q, .ref E3]) ht
    refine k _ t q E3 (((sH5.trans s6).trans w1).trans w2) (SqT.of upd_same) ?_ ?_
    · rw [w2 _ _ upd_same, List.append_nil]
      show some (HO.lst _) = some (HO.lst ((expand ((cols sm lv.2).map Prod.fst) ls ++ flipIf (!sm) (expand ((cols sm lv.2).map Prod.snd) ls)).map V.int))
      rw [hF, hG, List.map_append]
    · rw [w2 _ _ (w1 _ _ k5)]
      show some (HO.lst _) = some (HO.lst (natV (joinS lv.2.win (tal lv.2.lw.length (lv.2.way.map Prod.fst) ls) (flipIf (!sm) (tal lv.2.rw.length (lv.2.way.map Prod.snd) ls)))))
      rw [hA, hB]
end
end K6
set_option Elab.async false
set_option linter.all false
set_option maxRecDepth 100000
set_option maxHeartbeats 4000000
namespace K6
open PySem PySem.Spec PyProof.Rows L2
/-- a step of a path -/
def StepAt (K : PySem.W.Frag) (D : Ads) (H : Hp) (v : V) (e : PStep) : Prop := ∃ (a : Addr) (vl : V), v = .ref a ∧ SqT K H a [vl, .int (if e.2.1 then 1 else 0), .bl e.2.2] ∧ LevAt K D H vl e.1
theorem StepAt.mono {K : PySem.W.Frag} {D : Ads} {H H' : Hp} {v : V} {e : PStep} (s : Same H H') (h : StepAt K D H v e) : StepAt K D H' v e := by
  obtain ⟨a, vl, rfl, h1, h2⟩ := h
  exact ⟨a, vl, rfl, tupS s h1, h2.mono s⟩
theorem AllR.reverse {α : Type} {R : Hp → V → α → Prop} {H : Hp} {xs : List V} {as : List α} (h : AllR R H xs as) : AllR R H xs.reverse as.reverse := by
  refine ⟨by simp [h.1], fun i x e => ?_⟩
  have hi : i < xs.length := by have := (List.getElem?_eq_some_iff.mp e).1; simpa using this
  rw [List.getElem?_reverse hi] at e
  obtain ⟨a, e1, e2⟩ := h.2 _ x e
  exact ⟨a, by rw [List.getElem?_reverse (by rw [← h.1]; exact hi), ← h.1]; exact e1, e2⟩
theorem natV_int (ls : List Nat) : natV ls = (ls.map fun (n : Nat) => (n : Int)).map V.int := by
  unfold natV; rw [List.map_map]; rfl
theorem sum_flipIf (b : Bool) (l : List Nat) : (flipIf b l).sum = l.sum := by
  cases b with
  | true => exact List.sum_reverse l
  | false => rfl
theorem flipN_join {K : PySem.W.Frag} {σ : L2.St} {H : Hp} {Q : VK} {te : TE} {r : List Nat} {b : Bool} {ra : Addr} (hr : SqL K H ra (natV r)) (he : ∀ G : VK, G (.ref ra) H → te σ H G)
    (k : ∀ rr H1, Same H H1 → SqL K H1 rr (natV (flipIf b r)) → Q (.ref rr) H1) : if b = true then tRevL K te σ H Q else te σ H Q := by
  rw [natV_int] at hr
  refine flipL_join hr he fun rr H1 s1 h1 => k rr H1 s1 ?_
  rw [natV_int, ← flipIf_map]; exact h1
section
variable {P : Program} {w : World} {K : PySem.W.Frag} {mg : Str → Option Value} {base : Heap} {D : Ads}
def spBuilt (K : PySem.W.Frag) (D : Ads) : Sp := fun vs H Q _ => ∃ (pa : Addr) (xs : List V) (lv : V) (L : Looms) (n e : Node) (p : List PStep) (r : PRow) (kk : Nat), vs = [.ref pa, lv, .int ((2 ^ kk : Nat) : Int)] ∧ SqL K H pa xs ∧ AllR (StepAt K D) H xs p ∧ LevAt K D H lv r.lv ∧
  InsideAll L ∧ WF L ∧ PathOk L n p e ∧ Good n ∧ RowOf L e r ∧ r.node = none ∧ r.lv.2.way.length ≤ 2 ^ kk ∧ kk + p.length ≤ 20 ∧
  ∀ H' q, Same H H' → SqL K H' q ((builtM p r.lv (room r.lv.2.way.length (2 ^ kk))).1.map V.int) → Q (.ref q) H'
theorem ok_built (T : Txt K mg D) : FnOk P w K mg base CX0 2 (D.d 52).f (D.d 52).fd ["path", "level", "half"] (spBuilt K D) := by
  refine T.w52.F.ok scBuilt (fun vs H Q E h => ?_) (fun cdv A outer s H vs Q E hr h => ?_)
  · obtain ⟨_, _, _, _, _, _, _, _, _, rfl, _⟩ := h
    rfl
  · obtain ⟨pa, xs, lv, L, n, e, p, r, kk, rfl, hP, hx, hlv, hI, hWF, hpath, hg, hrow, hnode, hway, hk, kont⟩ := h
    refine ⟨_, (pss_cons (ps_asg (pe_call (ok_rowAt T) (hr.mono (by decide)) (by rfl) T.w51.m T.w51.F.kp T.w51.B .nil pass0 (pa_cons (pv 1) (pa_cons (pe_op op_cat (pe_op op_rep (pe_lst (pa_cons pe_int pa_nil)) (pe_op op_sub (pe_callB call_len_seq (by rfl) T.len boot_len (pa_cons (pe_fld (pv 1) (by rfl)) pa_nil)) pe_int)) (pe_lst (pa_cons (pe_op op_add (pe_op op_sub (pv 2) (pe_callB call_len_seq (by rfl) T.len boot_len (pa_cons (pe_fld (pv 1) (by rfl)) pa_nil))) pe_int) pa_nil))) pa_nil))) (pg_tup (by rfl) (pgs_cons (pg_name (i := 3) scBuilt.nd rfl (by first | exact Or.inl rfl | exact Or.inr rfl)) (pgs_cons (pg_name (i := 4) scBuilt.nd rfl (by first | exact Or.inl rfl | exact Or.inr rfl)) pgs_nil))))
      (pss_cons (ps_for PassesOwn.never rfl (pi_list (pe_revL (pv 0))) (pg_tup (by rfl) (pgs_cons (pg_name (i := 5) scBuilt.nd rfl (by first | exact Or.inl rfl | exact Or.inr rfl)) (pgs_cons (pg_name (i := 6) scBuilt.nd rfl (by first | exact Or.inl rfl | exact Or.inr rfl)) (pgs_cons (pg_name (i := 7) scBuilt.nd rfl (by first | exact Or.inl rfl | exact Or.inr rfl)) pgs_nil)))) (pss_cons (ps_set (i := 8) scBuilt.nd rfl (by first | exact Or.inl rfl | exact Or.inr rfl) (pe_ifExp (pt_cmpR op_ne (pv 7) (pe_ix ix_list (pe_fld (pv 5) (by rfl)) (pv 6) (fun _ _ => rfl)) (nomark _)) (pe_revL (pv 4)) (pv 4)))
      (pss_one (ps_asg (pe_call (ok_rowAt T) (hr.mono (by decide)) (by rfl) T.w51.m T.w51.F.kp T.w51.B .nil pass0 (pa_cons (pv 5) (pa_cons (pv 8) pa_nil))) (pg_tup (by rfl) (pgs_cons (pg_name (i := 3) scBuilt.nd rfl (by first | exact Or.inl rfl | exact Or.inr rfl)) (pgs_cons (pg_name (i := 4) scBuilt.nd rfl (by first | exact Or.inl rfl | exact Or.inr rfl)) pgs_nil)))))))
      (pss_one (ps_ret (pv 3))))), ?_⟩
    obtain ⟨a, hv, wv, n1, dx, fs, pl, pr, pt, rfl, hLI, hh, hw⟩ := id hlv
    obtain ⟨wp, wxs, rfl, hwp, hwx⟩ := hw.tuple
    have hwl : wxs.length = r.lv.2.way.length := by rw [hwx.length]; simp
    have zl : sizeLine = 16777216 := sizeLine_eq
    have hge := path_end hWF hpath hg
    have hof := hrow.2.1
    have hm := hof.len
    have hm4 := hge.2.2
    generalize hM : r.lv.2.way.length = m at hwl hway hm kont
    have hroom := room_ok (n := m) (half := 2 ^ kk) (by omega) hway
    have h2k : 2 ^ kk ≤ 1048576 := Nat.le_trans (Nat.pow_le_pow_right (by decide) (show kk ≤ 20 by omega)) (by decide)
    -- the first row
    refine ⟨_, rfl, small1, fun q1 hq1 => ?_⟩
    have t1 := same_new (o := .lst [.int 1]) hq1
    refine ⟨_, rfl, a, D.level, dx, fs, .ref wp, rfl, t1 _ _ hLI.ins, T.levelC, T.lN "way", hLI.way, _, _, rfl, .inr (tupS t1 hwp), _, _, rfl, rfl, q1, _, _, rfl, rfl, upd_same, by rw [hwl]; omega, by rw [hwl]; omega, by rw [hwl]; show 1 * ((m : Int) - 1).toNat ≤ _; omega, fun p1 hp1 => ?_⟩
    have e1 : ((wxs.length : Int) - 1).toNat = m - 1 := by rw [hwl]; omega
    rw [e1, rep_flat]
    have t2 := same_new (o := .lst (List.replicate (m - 1) (V.int 1))) hp1
    refine ⟨_, rfl, _, rfl, a, D.level, dx, fs, .ref wp, rfl, (t1.trans t2) _ _ hLI.ins, T.levelC, T.lN "way", hLI.way, _, _, rfl, .inr (tupS (t1.trans t2) hwp), _, _, rfl, rfl, _, _, rfl, rfl, small1, fun q2 hq2 => ?_⟩
    have t3 := same_new (o := .lst [V.int (((2 ^ kk : Nat) : Int) - (wxs.length : Int) + 1)]) hq2
    refine ⟨p1, q2, _, _, rfl, rfl, t3 _ _ upd_same, upd_same, by rw [List.length_replicate]; show m - 1 + 1 ≤ _; omega, fun q3 hq3 => ?_⟩
    have e2 : List.replicate (m - 1) (V.int 1) ++ [V.int (((2 ^ kk : Nat) : Int) - (wxs.length : Int) + 1)] = natV (room m (2 ^ kk)) := by
      unfold room natV
      rw [List.map_append, List.map_replicate, hwl]
      refine congrArg (fun z => _ ++ [V.int z]) ?_
      omega
    rw [e2]
    have t4 := same_new (o := .lst (natV (room m (2 ^ kk)))) hq3
    have tA := ((t1.trans t2).trans t3).trans t4
    refine ⟨.ref a, q3, r.lv, e.w, room m (2 ^ kk), rfl, hlv.mono tA, SqL.of upd_same, hof, hm4, by rw [hM]; exact hroom.1, by rw [hroom.2.2]; omega, fun H1 pz a1 a2 s1 hp h1 h2 => ?_⟩
    have sA := tA.trans s1
    refine ⟨pz, _, rfl, hp, rfl, _, _, rfl, _, _, rfl, rfl, ?_⟩
    -- the path
    refine ⟨_, rfl, pa, _, rfl, sA.seq hP, fun q hq => ?_⟩
    have t5 := same_new (o := .lst xs.reverse) hq
    have sB := sA.trans t5
    have hq5 := SqL.of (K := K) (upd_same (H := H1) (a := q) (o := HO.lst xs.reverse))
    have h15 := SqL.of (K := K) (t5 _ _ h1)
    have h25 := SqL.of (K := K) (t5 _ _ h2)
    generalize upd H1 q (.lst xs.reverse) = H2 at sB hq5 h15 h25 ⊢
    refine ⟨q, rfl, ⟨_, hq5⟩, ?_⟩
    have hxr := hx.reverse
    refine for_it (walk_list (K := K) (a := q) (xs := xs.reverse)) (fun i σ Hx => ∃ z1 z2 z3 z4 a1 a2, σ = [some (.ref pa), some (.ref a), some (.int ((2 ^ kk : Nat) : Int)), some (.ref a1), some (.ref a2), z1, z2, z3, z4] ∧ Same H2 Hx ∧
      SqL K Hx a1 ((builtM (p.drop (p.length - i)) r.lv (room m (2 ^ kk))).1.map V.int) ∧ SqL K Hx a2 (natV (builtM (p.drop (p.length - i)) r.lv (room m (2 ^ kk))).2))
      ⟨none, none, none, none, a1, a2, rfl, Same.refl _, by rw [Nat.sub_zero, List.drop_length]; exact h15, by rw [Nat.sub_zero, List.drop_length]; exact h25⟩ (fun i σ Hx _ ⟨_, _, _, _, _, _, _, h, _⟩ => h.seq hq5) ?_ ?_
    · rintro i x σ Hx Hy hi ⟨z1, z2, z3, z4, b1, b2, rfl, hS, f1, f2⟩ ⟨rfl, ex⟩
      obtain ⟨st, est, ap, vl, rfl, hap, hlvx⟩ := hxr.2 i x ex
      have hi2 : i < p.length := by have := (List.getElem?_eq_some_iff.mp est).1; simpa using this
      obtain ⟨y, ey1, ey2, ey3⟩ := drop_one_more hi2
      rw [est] at ey2
      cases ey2
      obtain ⟨mm, c, g1, g2, g3, g4, g5, g6, g7⟩ := path_at hWF hpath hg _ _ ey1
      have edr : p.length - 1 - i + 1 = p.length - i := by omega
      rw [edr] at g7
      obtain ⟨u1, u2⟩ := built_step hI g7 g6 hrow hnode (by rw [hM]; exact hroom.1) hroom.2.1 hroom.2.2
      have sHx := sB.trans hS
      obtain ⟨a', hv', wv', n2, dx', fs', pl', pr', pt', rfl, hLI', _⟩ := id (hlvx.mono sHx)
      refine ⟨ap, _, rfl, tupS sHx hap, rfl, _, _, rfl, _, _, rfl, _, _, rfl, rfl, ?_⟩
      refine ⟨_, rfl, _, rfl, a', D.level, dx', fs', .ref pt', rfl, hLI'.ins, T.levelC, T.lN "turned", hLI'.turned, _, rfl, pt', _, _, .bl (trn st.1.1 st.2.1), rfl, rfl, SqL.of hLI'.ht, ?_, rfl, st.2.2 != trn st.1.1 st.2.1, ?_, ?_⟩
      · cases st.2.1 with
        | true => exact at_of (j := 1) rfl rfl
        | false => exact at_of (j := 0) rfl rfl
      · cases st.2.2 <;> cases trn st.1.1 st.2.1 <;> rfl
      refine flipN_join f2 (fun G q => ⟨_, rfl, q⟩) fun rr H3 s3 hrr => ?_
      have hlen : (flipIf (st.2.2 != trn st.1.1 st.2.1) (builtM (p.drop (p.length - i)) r.lv (room m (2 ^ kk))).2).length = st.1.2.way.length := by
        rw [length_flipIf, u1]
        show (flipIf c.2 (halfW st.1 st.2.1)).length = _
        rw [length_flipIf, halfW_len]
      have hsum : (flipIf (st.2.2 != trn st.1.1 st.2.1) (builtM (p.drop (p.length - i)) r.lv (room m (2 ^ kk))).2).sum ≤ 2097152 := by
        rw [sum_flipIf, u2]
        refine Nat.le_trans (Nat.pow_le_pow_right (by decide) (show kk + 1 + (p.drop (p.length - i)).length ≤ 21 by rw [List.length_drop]; omega)) (by decide)
      refine ⟨_, rfl, _, rfl, .ref a', rr, st.1, mm.w, _, rfl, (hlvx.mono sHx).mono s3, hrr, g3, g1.2.2, hlen, hsum, fun H4 p4 c1 c2 s4 hp4 k1 k2 => ?_⟩
      refine ⟨p4, _, rfl, hp4, rfl, _, _, rfl, _, _, rfl, rfl, ?_⟩
      refine ⟨_, _, _, _, c1, c2, rfl, (hS.trans s3).trans s4, ?_, ?_⟩
      · rw [ey3]; exact SqL.of k1
      · rw [ey3]; exact SqL.of k2
    · rintro σ Hx ⟨z1, z2, z3, z4, b1, b2, rfl, hS, f1, f2⟩
      have el : xs.reverse.length = p.length := by rw [List.length_reverse]; exact hx.1
      rw [el, Nat.sub_self, List.drop_zero] at f1
      exact ⟨_, rfl, kont _ b1 (sB.trans hS) f1⟩
end
end K6
set_option Elab.async false
set_option linter.all false
set_option maxRecDepth 100000
set_option maxHeartbeats 80000
namespace K6
open PySem PySem.Spec PyProof.Rows L2
theorem AllR.append {α : Type} {R : Hp → V → α → Prop} {H : Hp} {xs ys : List V} {as bs : List α} (h : AllR R H xs as) (g : AllR R H ys bs) : AllR R H (xs ++ ys) (as ++ bs) := by
  refine ⟨by simp [h.1, g.1], fun i x e => ?_⟩
  by_cases q : i < xs.length
  · rw [List.getElem?_append_left q] at e
    obtain ⟨a, h1, h2⟩ := h.2 i x e
    exact ⟨a, by rw [List.getElem?_append_left (by rw [← h.1]; exact q)]; exact h1, h2⟩
  · rw [List.getElem?_append_right (by omega)] at e
    obtain ⟨a, h1, h2⟩ := g.2 _ x e
    exact ⟨a, by rw [List.getElem?_append_right (by rw [← h.1]; omega), ← h.1]; exact h1, h2⟩
theorem AllR.take {α : Type} {R : Hp → V → α → Prop} {H : Hp} {xs : List V} {as : List α} (h : AllR R H xs as) (n : Nat) : AllR R H (xs.take n) (as.take n) := by
  refine ⟨by simp [h.1], fun i x e => ?_⟩
  rw [List.getElem?_take] at e
  split at e
  · rename_i q
    obtain ⟨a, h1, h2⟩ := h.2 i x e
    exact ⟨a, by rw [List.getElem?_take, if_pos q]; exact h1, h2⟩
  · cases e
section
variable {P : Program} {w : World} {K : PySem.W.Frag} {mg : Str → Option Value} {base : Heap} {D : Ads}
def spFirstSteps (K : PySem.W.Frag) (D : Ads) : Sp := fun vs H Q _ => ∃ (v : V) (L : Looms) (nm : Nat) (up : Bool) (wa : Addr) (xs : List V) (ws : List (List Int)), vs = [v, .str (nmS nm), .ref wa, .str (ordS up)] ∧ LoomsAt K H v L ∧ LOk L ∧ nm < L.length ∧ SqA K H wa xs ∧ DpAll K H xs (ws.map wD) ∧ WordsOk ws ∧ ws.length ≤ 4 ∧
  ∀ (H' : Hp) (p : Addr) (ys : List V) (rs : List PRow), Same H H' → H' p = some (.lst ys) → H p = none → AllR (RowAt K D) (fsh H H') ys rs → (∀ r, r ∈ rs ↔ ∃ wd ∈ ws, RowOf L ⟨nm, up, wd⟩ r) → rs.length ≤ 8000 → Q (.ref p) H'
theorem ok_firstSteps (U : Txu w K mg D) : FnOk P w K mg base CX0 10 (D.d 55).f (D.d 55).fd ["looms", "name", "words", "order"] (spFirstSteps K D) := by
  have T := U.T
  refine T.w55.F.ok scFirstSteps (fun vs H Q E h => ?_) (fun cdv A outer s H vs Q E hr h => ?_)
  · obtain ⟨_, _, _, _, _, _, _, rfl, _⟩ := h
    rfl
  · obtain ⟨v, L, nm, up, wa, xs, ws, rfl, hL, ok, hnm, hS, hx, hW, h4, k⟩ := h
    refine ⟨_, (pss_one (ps_ret (pe_lc2 (own := [("word", 4), ("row", 5)]) (vs1 := [5]) (by rfl) scFirstSteps.nd (pi_seq (pv 2)) (blkOk_by (own := [("word", 4), ("row", 5)]) (N := ["looms", "name", "words", "order", "word", "row"]) (sc := defScope sFirstSteps) (by decide +kernel)) (by decide) (fun _ _ _ _ _ => (pg_name (i := 4) scFirstSteps.nd rfl (by first | exact Or.inl rfl | exact Or.inr rfl))) (fun _ _ _ _ _ => pts_nil) (fun _ _ _ _ _ => (pi_listK K (by rfl) (pe_call (ok_stepsOf U) (hr.mono (by decide)) (by rfl) T.w44.m T.w44.F.kp T.w44.B .nil pass0 (pa_cons (pv 0) (pa_cons (pe_tup (pa_cons (pv 1) (pa_cons (pv 3) (pa_cons (pv 4) pa_nil)))) pa_nil))))) (fun _ _ _ _ _ => (pg_name (i := 5) scFirstSteps.nd rfl (by first | exact Or.inl rfl | exact Or.inr rfl))) (fun _ _ _ _ _ => pts_nil) (fun _ _ _ _ _ => (pv 5))))), ?_⟩
    have hlx : xs.length = ws.length := by rw [hx.length]; simp
    have zl : sizeLine = 16777216 := sizeLine_eq
    refine ⟨_, rfl, wa, rfl, ?_⟩
    rcases hS with hS | hS
    · refine .inl ⟨⟨_, hS⟩, fun Dd hDd => ?_⟩
      refine lc2_it (walk_list (K := K) (a := wa) (xs := xs)) (fun i Hx => ∃ acc rs, Same H Hx ∧ Hx Dd = some (.lst acc) ∧ AllR (RowAt K D) (own [Dd] H Hx) acc rs ∧ (∀ r, r ∈ rs ↔ ∃ wd ∈ ws.take i, RowOf L ⟨nm, up, wd⟩ r) ∧ acc.length ≤ i * 1536) ⟨[], [], same_new hDd, upd_same, .nil, fun r => by simp, Nat.zero_le _⟩ (fun i Hx _ ⟨_, _, h, _⟩ => h.seq hS) ?_ ?_
      · rintro i x Hx Hy hi ⟨acc, rs, sH, hD, hR, hmem, hlen⟩ ⟨rfl, ex⟩
        obtain ⟨d, ed, hd⟩ := hx.getV ex
        rw [List.getElem?_map] at ed
        obtain ⟨wd, ew, rfl⟩ := Option.map_eq_some_iff.mp ed
        obtain ⟨w1, w2, w3⟩ := hW wd (List.mem_of_getElem? ew)
        refine ⟨rfl, _, rfl, _, rfl, _, rfl, _, rfl, small3, fun q hq => ?_⟩
        have s1 := same_new (o := .tup [.str (nmS nm), .str (ordS up), x]) hq
        obtain ⟨wp, rfl, hwp⟩ := get_w (hd.mono (sH.trans s1))
        have hnode : Dp K (upd Hy q (.tup [.str (nmS nm), .str (ordS up), .ref wp])) (.ref q) (nodeD ⟨nm, up, wd⟩) := .tup (SqT.of upd_same) (.cons (.str _) (.cons (.str _) (.cons (dp_w hwp) .nil)))
        have sH1 := sH.trans s1
        refine ⟨v, .ref q, L, ⟨nm, up, wd⟩, rfl, hL.mono sH1, ok, hnode, hnm, by show 0 < wd.length; omega, w3, fun H2 p ys rs1 s2 hp n0 hA hmem1 hl1 => ?_⟩
        have hD2 := (s1.trans s2) _ _ hD
        have hD1 := s1 _ _ hD
        have npD : p ≠ Dd := fun e => by rw [e, hD1] at n0; cases n0
        have hml : ∀ l ∈ [Dd], ∃ o, (upd Hy q (.tup [.str (nmS nm), .str (ordS up), .ref wp])) l = some o ∧ isTup o = false := fun l hl => by
          rw [List.mem_singleton.mp hl]; exact ⟨_, hD1, rfl⟩
        have hA2 : AllR (RowAt K D) (own [Dd] H H2) ys rs1 := hA.mono (fun _ _ _ _ s h => h.mono s) (own_fsh sH1 hml)
        have hR2 : AllR (RowAt K D) (own [Dd] H H2) acc rs := hR.mono (fun _ _ _ _ s h => h.mono s) (own_same (s1.trans s2))
        refine ⟨p, rfl, ⟨_, SqL.of hp⟩, ?_⟩
        refine in_it (walk_list (K := K) (a := p) (xs := ys)) (fun j Hz => Same H Hz ∧ Hz p = some (.lst ys) ∧ Hz Dd = some (.lst (acc ++ ys.take j)) ∧ own [Dd] H Hz = own [Dd] H H2) ⟨sH1.trans s2, hp, by simpa using hD2, rfl⟩ (fun j Hz _ h => SqL.of h.2.1) ?_ ?_
        · rintro j z Ha Hb hj ⟨b1, b2, b3, b4⟩ ⟨rfl, ez⟩
          have hl2 : ys.length = rs1.length := hA.1
          have hi4 : i < 4 := by omega
          refine ⟨rfl, _, rfl, _, b3, ?_, same_upd_new b1 hDd, by rw [upd_ne npD]; exact b2, ?_, by rw [own_upd (by simp)]; exact b4⟩
          · rw [List.length_append, List.length_take]; omega
          · rw [upd_same, List.take_add_one, ez, List.append_assoc]; rfl
        · rintro Hz ⟨b1, b2, b3, b4⟩
          rw [List.take_length] at b3
          refine ⟨acc ++ ys, rs ++ rs1, b1, b3, by rw [b4]; exact hR2.append hA2, fun r => ?_, by rw [List.length_append, hA.1]; omega⟩
          have et : ws.take (i + 1) = ws.take i ++ [wd] := by rw [List.take_add_one, ew]; rfl
          rw [List.mem_append, hmem, hmem1, et]
          constructor
          · rintro (⟨w', h1, h2⟩ | h)
            · exact ⟨w', List.mem_append_left _ h1, h2⟩
            · exact ⟨wd, by simp, h⟩
          · rintro ⟨w', h1, h2⟩
            rcases List.mem_append.mp h1 with h1 | h1
            · exact .inl ⟨w', h1, h2⟩
            · rw [List.mem_singleton.mp h1] at h2
              exact .inr h2
      · rintro Hx ⟨acc, rs, sH, hD, hR, hmem, hlen⟩
        rw [hlx, List.take_length] at hmem
        refine k Hx Dd acc rs sH hD hDd (hR.mono (fun _ _ _ _ s h => h.mono s) own_end) hmem ?_
        have := hR.1
        omega
    · refine .inr ⟨⟨_, hS⟩, fun Dd hDd => ?_⟩
      refine lc2_it (walk_tup (K := K) (a := wa) (xs := xs)) (fun i Hx => ∃ acc rs, Same H Hx ∧ Hx Dd = some (.lst acc) ∧ AllR (RowAt K D) (own [Dd] H Hx) acc rs ∧ (∀ r, r ∈ rs ↔ ∃ wd ∈ ws.take i, RowOf L ⟨nm, up, wd⟩ r) ∧ acc.length ≤ i * 1536) ⟨[], [], same_new hDd, upd_same, .nil, fun r => by simp, Nat.zero_le _⟩ (fun i Hx _ ⟨_, _, h, _⟩ => tupS h hS) ?_ ?_
      · rintro i x Hx Hy hi ⟨acc, rs, sH, hD, hR, hmem, hlen⟩ ⟨rfl, ex⟩
        obtain ⟨d, ed, hd⟩ := hx.getV ex
        rw [List.getElem?_map] at ed
        obtain ⟨wd, ew, rfl⟩ := Option.map_eq_some_iff.mp ed
        obtain ⟨w1, w2, w3⟩ := hW wd (List.mem_of_getElem? ew)
        refine ⟨rfl, _, rfl, _, rfl, _, rfl, _, rfl, small3, fun q hq => ?_⟩
        have s1 := same_new (o := .tup [.str (nmS nm), .str (ordS up), x]) hq
        obtain ⟨wp, rfl, hwp⟩ := get_w (hd.mono (sH.trans s1))
        have hnode : Dp K (upd Hy q (.tup [.str (nmS nm), .str (ordS up), .ref wp])) (.ref q) (nodeD ⟨nm, up, wd⟩) := .tup (SqT.of upd_same) (.cons (.str _) (.cons (.str _) (.cons (dp_w hwp) .nil)))
        have sH1 := sH.trans s1
        refine ⟨v, .ref q, L, ⟨nm, up, wd⟩, rfl, hL.mono sH1, ok, hnode, hnm, by show 0 < wd.length; omega, w3, fun H2 p ys rs1 s2 hp n0 hA hmem1 hl1 => ?_⟩
        have hD2 := (s1.trans s2) _ _ hD
        have hD1 := s1 _ _ hD
        have npD : p ≠ Dd := fun e => by rw [e, hD1] at n0; cases n0
        have hml : ∀ l ∈ [Dd], ∃ o, (upd Hy q (.tup [.str (nmS nm), .str (ordS up), .ref wp])) l = some o ∧ isTup o = false := fun l hl => by
          rw [List.mem_singleton.mp hl]; exact ⟨_, hD1, rfl⟩
        have hA2 : AllR (RowAt K D) (own [Dd] H H2) ys rs1 := hA.mono (fun _ _ _ _ s h => h.mono s) (own_fsh sH1 hml)
        have hR2 : AllR (RowAt K D) (own [Dd] H H2) acc rs := hR.mono (fun _ _ _ _ s h => h.mono s) (own_same (s1.trans s2))
        refine ⟨p, rfl, ⟨_, SqL.of hp⟩, ?_⟩
        refine in_it (walk_list (K := K) (a := p) (xs := ys)) (fun j Hz => Same H Hz ∧ Hz p = some (.lst ys) ∧ Hz Dd = some (.lst (acc ++ ys.take j)) ∧ own [Dd] H Hz = own [Dd] H H2) ⟨sH1.trans s2, hp, by simpa using hD2, rfl⟩ (fun j Hz _ h => SqL.of h.2.1) ?_ ?_
        · rintro j z Ha Hb hj ⟨b1, b2, b3, b4⟩ ⟨rfl, ez⟩
          have hl2 : ys.length = rs1.length := hA.1
          have hi4 : i < 4 := by omega
          refine ⟨rfl, _, rfl, _, b3, ?_, same_upd_new b1 hDd, by rw [upd_ne npD]; exact b2, ?_, by rw [own_upd (by simp)]; exact b4⟩
          · rw [List.length_append, List.length_take]; omega
          · rw [upd_same, List.take_add_one, ez, List.append_assoc]; rfl
        · rintro Hz ⟨b1, b2, b3, b4⟩
          rw [List.take_length] at b3
          refine ⟨acc ++ ys, rs ++ rs1, b1, b3, by rw [b4]; exact hR2.append hA2, fun r => ?_, by rw [List.length_append, hA.1]; omega⟩
          have et : ws.take (i + 1) = ws.take i ++ [wd] := by rw [List.take_add_one, ew]; rfl
          rw [List.mem_append, hmem, hmem1, et]
          constructor
          · rintro (⟨w', h1, h2⟩ | h)
            · exact ⟨w', List.mem_append_left _ h1, h2⟩
            · exact ⟨wd, by simp, h⟩
          · rintro ⟨w', h1, h2⟩
            rcases List.mem_append.mp h1 with h1 | h1
            · exact .inl ⟨w', h1, h2⟩
            · rw [List.mem_singleton.mp h1] at h2
              exact .inr h2
      · rintro Hx ⟨acc, rs, sH, hD, hR, hmem, hlen⟩
        rw [hlx, List.take_length] at hmem
        refine k Hx Dd acc rs sH hD hDd (hR.mono (fun _ _ _ _ s h => h.mono s) own_end) hmem ?_
        have := hR.1
        omega
end
end K6
set_option Elab.async false
set_option linter.all false
set_option maxRecDepth 100000
set_option maxHeartbeats 4000000
namespace K6
open PySem PySem.Spec PyProof.Rows L2
section
variable {P : Program} {w : World} {K : PySem.W.Frag} {mg : Str → Option Value} {base : Heap} {D : Ads}
def spOutsideInit (K : PySem.W.Frag) (D : Ads) : Sp := fun vs H Q _ => ∃ (a : Addr) (x : V), vs = [.ref a, x] ∧ H a = some (exo a D.outside none) ∧ ∀ dx, H dx = none → dx ≠ a → Q .non (upd (upd H dx (exd dx [("why", x)])) a (exo a D.outside (some dx)))
theorem ok_outsideInit (U : Txu w K mg D) : FnOk P w K mg base CX0 1 (D.d 500).f (D.d 500).fd ["self", "why"] (spOutsideInit K D) := by
  have T := U.T
  refine U.oF.ok scOutsideInit (fun vs H Q E h => ?_) (fun cdv A outer s H vs Q E hr h => ?_)
  · obtain ⟨_, _, rfl, _⟩ := h
    rfl
  · obtain ⟨a, x, rfl, ha, k⟩ := h
    refine ⟨_, pss_one (ps_ost (pv 0) (pv 1)), ?_⟩
    exact ⟨_, rfl, _, rfl, a, D.outside, rfl, U.oex, U.owhy, .inl ⟨ha, fun dx h1 h2 => k dx h1 h2⟩⟩
end
end K6
set_option Elab.async false
set_option linter.all false
set_option maxRecDepth 100000
set_option maxHeartbeats 4000000
/-! dicts whose keys are nodes (nested tuples), every value True -/
namespace K6
open PySem PySem.Spec PyProof.Rows L2
mutual
/-- the key that plain data is -/
def nkD : PyData → NestedKey
  | .none => .none
  | .bool b => .num (if b = true then 1 else 0)
  | .int i => .num i
  | .str x => .text x
  | .list _ => .none
  | .tuple ds => .tup (nkDs ds)
  | .dict _ => .none
def nkDs : List PyData → List NestedKey
  | [] => []
  | d :: ds => nkD d :: nkDs ds
end
section
variable {X : Cx} {pins : List (Addr × Obj)} {σ : L2.St} {H H' : Hp} {s : Shared}
mutual
theorem dp_key (I : Inv X pins σ H s) : ∀ {v : V} {d : PyData} {u : Value}, Dp X.K H v d → noL d = true → RelV v u → NestedIs s.heap (nkD d) u
  | _, _, _, .non, _, r => by cases r; exact .none
  | _, _, _, .bl b, _, r => by cases r; exact .bool rfl
  | _, _, _, .int i, _, r => by obtain ⟨t, rfl⟩ := r; exact .int i t
  | _, _, _, .str x, _, r => by obtain ⟨t, rfl⟩ := r; exact .text x t
  | _, _, _, .lst _ _, n, _ => by rw [noL] at n; cases n
  | _, _, _, .tup h k, n, r => by
    cases r
    rw [noL] at n
    obtain ⟨its, rv, ⟨o, h1, h2, m, h3⟩, _⟩ := I.tuple h
    rw [nkD]
    exact .tup h1 h2 h3 (by simpa using dps_key I k n rv)
theorem dps_key (I : Inv X pins σ H s) : ∀ {vs : List V} {ds : List PyData} {us : List Value}, DpAll X.K H vs ds → noLs ds = true → Vals vs us → NestedAll s.heap (nkDs ds) us
  | _, _, _, .nil, _, r => by cases r; exact .nil
  | _, _, _, .cons h k, n, r => by
    rw [noLs, Bool.and_eq_true] at n
    cases r with
    | cons r1 r2 => exact .cons (dp_key I h n.1 r1) (dps_key I k n.2 r2)
end
end
/-- the dict's object: keys and where they stand -/
def NdO (w : World) (a : Addr) (ps : List (NestedKey × Addr)) : HO := .ext fun h => (a == sysModules) = false ∧ ps.length ≤ sizeLine ∧ (ps.map (·.1)).Nodup ∧
  ∃ o es ep, h.get? a = some o ∧ o.ExactDict ∧ o.data = .dict es ep ∧ es.toList = ps.map fun p => (⟨p.1.hash w, .ref p.2, .bool true⟩ : DictEntry)
/-- the value v is the key k -/
def KeyIs (K : PySem.W.Frag) (H : Hp) (v : V) (k : NestedKey) : Prop := ∃ d, Dp K H v d ∧ noL d = true ∧ nkD d = k ∧ k.depth ≤ 8
def Keyed (K : PySem.W.Frag) (H : Hp) (ps : List (NestedKey × Addr)) : Prop := ∀ p ∈ ps, KeyIs K H (.ref p.2) p.1
theorem KeyIs.mono {K : PySem.W.Frag} {H H' : Hp} {v : V} {k : NestedKey} (e : Same H H') (h : KeyIs K H v k) : KeyIs K H' v k := by
  obtain ⟨d, h1, h2⟩ := h
  exact ⟨d, h1.mono e, h2⟩
theorem Keyed.mono {K : PySem.W.Frag} {H H' : Hp} {ps : List (NestedKey × Addr)} (e : Same H H') (h : Keyed K H ps) : Keyed K H' ps := fun p hp => (h p hp).mono e
def hasN (ps : List (NestedKey × Addr)) (k : NestedKey) : Bool := ps.any fun p => decide (p.1 = k)
def putN (ps : List (NestedKey × Addr)) (k : NestedKey) (b : Addr) : List (NestedKey × Addr) := if hasN ps k = true then ps else ps ++ [(k, b)]
def ndX (ps : List (NestedKey × Addr)) : List (NestedKey × Addr × Value) := ps.map fun p => (p.1, p.2, .bool true)
theorem atKey_ndX (k : NestedKey) : ∀ ps : List (NestedKey × Addr), (atKey (ndX ps) k).isSome = hasN ps k
  | [] => rfl
  | p :: ps => by
    have ih := atKey_ndX k ps
    by_cases h : p.1 = k
    · simp [ndX, atKey, hasN, h]
    · simpa [ndX, atKey, hasN, h] using ih
theorem stored_ndX (ps : List (NestedKey × Addr)) (k : NestedKey) (b : Addr) : storedH (ndX ps) k b (.bool true) = ndX (putN ps k b) := by
  unfold storedH putN
  rw [atKey_ndX]
  split
  · rename_i q
    unfold ndX
    rw [List.map_map]
    refine List.map_congr_left fun x _ => ?_
    by_cases h : x.1 = k <;> simp [putAt, h]
  · rename_i q
    have q' : hasN ps k = false := by cases hq : hasN ps k <;> simp_all
    simp [ndX]
theorem putN_len (ps : List (NestedKey × Addr)) (k : NestedKey) (b : Addr) : (putN ps k b).length ≤ ps.length + 1 := by
  unfold putN
  split <;> simp
section
variable {X : Cx} {pins : List (Addr × Obj)} {σ : L2.St} {H : Hp} {s : Shared} {a : Addr} {ps : List (NestedKey × Addr)} {k : NestedKey} {v : V} {u : Value}
theorem key_is (I : Inv X pins σ H s) {b : Addr} (h : KeyIs X.K H (.ref b) k) : (nestedKind X.prog X.w).is s.heap k b := by
  obtain ⟨d, h1, h2, rfl, h4⟩ := h
  exact ⟨dp_key I h1 h2 rfl, h4⟩
theorem nd_of (I : Inv X pins σ H s) (e : H a = some (NdO X.w a ps)) (hk : Keyed X.K H ps) : ps.length ≤ sizeLine ∧ (a == sysModules) = false ∧ s.heap.DictOfH (nestedKind X.prog X.w) a (ndX ps) := by
  obtain ⟨⟨h1, h2, h3, o, es, ep, h4, h5, h6, h7⟩, _⟩ := (show ObjOk X.prog X.w H s.heap a (NdO X.w a ps) from I.hok a _ e)
  refine ⟨h2, h1, o, es, ep, h4, h5, h6, ?_, fun x hx => ?_, ?_⟩
  · rw [h7]; unfold ndX; rw [List.map_map]; rfl
  · unfold ndX at hx
    obtain ⟨p, hp, rfl⟩ := List.mem_map.mp hx
    exact key_is I (hk p hp)
  · unfold ndX; rw [List.map_map]; exact h3
theorem nd_ok {P : Program} {H' : Hp} {h : Heap} (hd : (a == sysModules) = false) (hl : ps.length ≤ sizeLine) (hh : h.DictOfH (nestedKind P X.w) a (ndX ps)) : ObjOk P X.w H' h a (NdO X.w a ps) := by
  obtain ⟨o, es, ep, h4, h5, h6, h7, _, h9⟩ := hh
  refine ⟨⟨hd, hl, ?_, o, es, ep, h4, h5, h6, ?_⟩, ⟨o, h4⟩, ?_⟩
  · unfold ndX at h9; rw [List.map_map] at h9; exact h9
  · rw [h7]; unfold ndX; rw [List.map_map]; rfl
  · rintro g1 g2 ⟨q1, q2, q3, o', es', ep', q4, q5⟩ kp
    exact ⟨q1, q2, q3, o', es', ep', kp _ q4, q5⟩
end
end K6
set_option Elab.async false
set_option linter.all false
set_option maxRecDepth 100000
set_option maxHeartbeats 4000000
namespace K6
open PySem PySem.Spec PyProof.Rows L2
section
variable {X : Cx} {pins : List (Addr × Obj)} {σ : L2.St} {H : Hp} {s : Shared} {a : Addr} {ps : List (NestedKey × Addr)} {k : NestedKey} {A : Around} {E : Value → Shared → Prop}
theorem nd_dictSet {b : Addr} {Q : Unit → Shared → Prop} (hu : X.A.units + 8 < cLine) (I : Inv X pins σ H s) (e : H a = some (NdO X.w a ps)) (hk : Keyed X.K H ps) (hb : KeyIs X.K H (.ref b) k) (hl : ps.length < sizeLine)
    (h : ∀ s', Inv X pins σ (upd H a (NdO X.w a (putN ps k b))) s' → Q () s') : wpAny (model X.prog X.w) X.A (dictSet a (.ref b) (.bool true)) Q E s := by
  obtain ⟨z, hd, dd⟩ := nd_of I e hk
  have hl2 : (putN ps k b).length ≤ sizeLine := by have := putN_len ps k b; omega
  refine wpAny_dictSet_heap (hsz := by unfold ndX; rw [List.length_map]; exact z) (show (nestedKind X.prog X.w).room X.A from hu) (key_is I hb) dd fun h' dd' hs => h _ ?_
  rw [stored_ndX] at dd'
  have he : ∃ q, h'.get? a = some q := let ⟨q, _, _, hq, _⟩ := dd'; ⟨q, hq⟩
  exact d_write I (by rw [e]; exact True.intro) hs he (nd_ok hd hl2 dd')
theorem nd_setItem {b : Addr} {Q : Unit → Shared → Prop} (hu : X.A.units + 9 < cLine) (I : Inv X pins σ H s) (e : H a = some (NdO X.w a ps)) (hk : Keyed X.K H ps) (hb : KeyIs X.K H (.ref b) k) (hl : ps.length < sizeLine)
    (h : ∀ s', Inv X pins σ (upd H a (NdO X.w a (putN ps k b))) s' → Q () s') : wpAny (model X.prog X.w) X.A (setItem (.ref a) (.ref b) (.bool true)) Q E s := by
  obtain ⟨z, hd, dd⟩ := nd_of I e hk
  have hl2 : (putN ps k b).length ≤ sizeLine := by have := putN_len ps k b; omega
  refine wpAny_setItem_heap (hsz := by unfold ndX; rw [List.length_map]; exact z) (show (nestedKind X.prog X.w).room X.A.in1 from (by show X.A.units + 1 + 8 < cLine; omega)) (key_is I hb) dd fun h' dd' hs => h _ ?_
  rw [stored_ndX] at dd'
  have he : ∃ q, h'.get? a = some q := let ⟨q, _, _, hq, _⟩ := dd'; ⟨q, hq⟩
  exact d_write I (by rw [e]; exact True.intro) hs he (nd_ok hd hl2 dd')
/-- what the rules ask of a dict of nodes -/
def NDict (X : Cx) (H : Hp) (x : V) (ps : List (NestedKey × Addr)) : Prop := ∃ a, x = .ref a ∧ H a = some (NdO X.w a ps) ∧ Keyed X.K H ps
end
/-- y in d, y not in d, d[y] = True -/
def tNdIn (K : PySem.W.Frag) (w : World) (neg : Bool) (ty td : TE) : TE := fun σ H Q => ty σ H fun y H1 => td σ H1 fun x H2 => ∃ a b ps k, x = .ref a ∧ y = .ref b ∧ H2 a = some (NdO w a ps) ∧ Keyed K H2 ps ∧ KeyIs K H2 (.ref b) k ∧ Q (.bl (if neg then !hasN ps k else hasN ps k)) H2
def sNdPut (K : PySem.W.Frag) (w : World) (td ty tv : TE) : TS := fun D σ H => tv σ H fun v H1 => td σ H1 fun x H2 => ty σ H2 fun y H3 => ∃ a b ps k, v = .bl true ∧ x = .ref a ∧ y = .ref b ∧ H3 a = some (NdO w a ps) ∧ Keyed K H3 ps ∧ KeyIs K H3 (.ref b) k ∧ ps.length < sizeLine ∧
  D.nx σ (upd H3 a (NdO w a (putN ps k b)))
def tNdNew (w : World) : TE := fun _ H Q => ∀ p, H p = none → Q (.ref p) (upd H p (NdO w p []))
theorem nd_empty {P : Program} {w : World} {H : Hp} (h : Heap) (hb : sysModules < h.objs.size) : ObjOk P w H (h.push { cls := .type "dict", data := .dict #[] }) h.objs.size (NdO w h.objs.size []) := by
  refine ⟨⟨beq_eq_false_iff_ne.mpr (Ne.symm (Nat.ne_of_lt hb)), Nat.zero_le _, List.nodup_nil, _, #[], 0, Heap.get?_push_size _ rfl, ⟨rfl, rfl, rfl⟩, rfl, rfl⟩, ⟨_, Heap.get?_push_size _ rfl⟩, ?_⟩
  rintro g1 g2 ⟨q1, q2, q3, o', es', ep', q4, q5⟩ kp
  exact ⟨q1, q2, q3, o', es', ep', kp _ q4, q5⟩
section
variable {X : Cx} {o i e value : Expr} {pos pos' tpos : PySem.Pos} {td ty tv : TE}
theorem pe_ndnew : PE X (.Dict [] [] pos) (tNdNew X.w) := ⟨fun pins s σ H Q I h =>
  wpAny_Dict_empty ⟨.ref s.heap.objs.size, _, I.laid (a := s.heap.objs.size) (o := NdO X.w s.heap.objs.size []) (t' := s.toks) (fun _ _ q => Heap.get?_push_of_some _ q) (Nat.le_refl _) (nd_empty s.heap I.big), rfl, h _ (I.hok.fresh (Nat.le_refl _))⟩⟩
theorem pc_ndin (hu : X.A.units + 9 < cLine) (hi : PE X i ty) (ho : PE X o td) : PC X .In i o (tNdIn X.K X.w false ty td) := by
  refine ⟨fun pins s σ H Q I h => ?_⟩
  refine thn (hi.run pins s σ H _ I h) fun iv s1 ⟨y, H1, I1, ry, q1⟩ => thn (ho.run pins s1 σ H1 _ I1 q1) fun u s2 ⟨x, H2, I2, rx, a, b, ps, k, ex, ey, h1, h2, h3, q2⟩ => ?_
  subst ex ey
  obtain rfl : u = Value.ref a := rx
  obtain rfl : iv = Value.ref b := ry
  obtain ⟨z, hd, dd⟩ := nd_of I2 h1 h2
  refine wpAny_in_heap (show (nestedKind X.prog X.w).room X.A.in1 from (by show X.A.units + 1 + 8 < cLine; omega)) (key_is I2 h3) hd dd ?_
  rw [atKey_ndX]
  exact ⟨.bl (hasN ps k), H2, I2.tok _, rfl, q2⟩
theorem pc_ndnotin (hu : X.A.units + 9 < cLine) (hi : PE X i ty) (ho : PE X o td) : PC X .NotIn i o (tNdIn X.K X.w true ty td) := by
  refine ⟨fun pins s σ H Q I h => ?_⟩
  refine thn (hi.run pins s σ H _ I h) fun iv s1 ⟨y, H1, I1, ry, q1⟩ => thn (ho.run pins s1 σ H1 _ I1 q1) fun u s2 ⟨x, H2, I2, rx, a, b, ps, k, ex, ey, h1, h2, h3, q2⟩ => ?_
  subst ex ey
  obtain rfl : u = Value.ref a := rx
  obtain rfl : iv = Value.ref b := ry
  obtain ⟨z, hd, dd⟩ := nd_of I2 h1 h2
  refine wpAny_notIn_heap (show (nestedKind X.prog X.w).room X.A.in1 from (by show X.A.units + 1 + 8 < cLine; omega)) (key_is I2 h3) hd dd ?_
  rw [atKey_ndX]
  exact ⟨.bl (!hasN ps k), H2, I2.tok _, rfl, q2⟩
theorem ps_ndput (hu : X.A.units + 9 < cLine) (ho : PE X o td) (hi : PE X i ty) (hv : PE X value tv) (hs : swapsWith value (some (.Subscript o i pos')) pos.line X.env = pure false) :
    PS X (.Assign [.Subscript o i pos'] value pos) (sNdPut X.K X.w td ty tv) := by
  refine ⟨fun pins s σ H D I h => ?_⟩
  refine wpAny_Assign_Subscript (thn (hv.run pins s σ H _ I h) fun r s1 ⟨v, H1, I1, rv, q1⟩ => thn (ho.run pins s1 σ H1 _ I1 q1) fun u s2 ⟨x, H2, I2, rx, q2⟩ => thn (hi.run pins s2 σ H2 _ I2 q2) fun iv s3 ⟨y, H3, I3, ry, a, b, ps, k, ev, ex, ey, h1, h2, h3, hl, q3⟩ => ?_) hs
  subst ev ex ey
  obtain rfl : u = Value.ref a := rx
  obtain rfl : iv = Value.ref b := ry
  obtain rfl : r = Value.bool true := rv
  exact nd_setItem hu I3 h1 h2 h3 hl fun s4 I4 => ⟨σ, _, I4, q3⟩
theorem call_list_nd (hc : X.calm = true) : CallR X (.type "list") (fun xs H Q => ∃ d ps, xs = [V.ref d] ∧ H d = some (NdO X.w d ps) ∧ ∀ p, H p = none → Q (.ref p) (upd H p (.lst (ps.map fun x => V.ref x.2)))) := by
  intro pins s σ H xs us Q I r h
  obtain ⟨d, ps, rfl, hd, q⟩ := h
  obtain ⟨u, rfl, rx⟩ := r.one
  cases rx
  obtain ⟨⟨hs, hl, hn, o, es, ep, ho, hx, hdt, he⟩, _⟩ := (show ObjOk X.prog X.w H s.heap d (NdO X.w d ps) from I.hok d _ hd)
  have l1 : es.size = ps.length := by rw [← Array.length_toList, he, List.length_map]
  refine PySem.W.kdl_call (kdl_raw hs hx hdt) (I.ok.hd hc) ho (by omega) fun h' tk acc' c' kp e it => ?_
  have ea : acc'.toList = ps.map fun x => Value.ref x.2 := by
    have hl : acc'.toList.length = ps.length := by rw [Array.length_toList, it.1]; exact l1
    apply List.ext_getElem?
    intro j
    rw [List.getElem?_map]
    cases hj : acc'.toList[j]? with
    | none =>
      have h1 := List.getElem?_eq_none_iff.mp hj
      rw [List.getElem?_eq_none (by omega)]
      all_goals rfl
    | some v =>
      obtain ⟨en, hen, hv⟩ := it.2 j v (by rw [← Array.getElem?_toList]; exact hj)
      rw [← Array.getElem?_toList, he, List.getElem?_map] at hen
      obtain ⟨p, hp, rfl⟩ := Option.map_eq_some_iff.mp hen
      rw [hp, hv]
      all_goals rfl
  have rv : Vals ((ps.map fun x => x.2).map V.ref) acc'.toList := by
    rw [ea, show (ps.map fun x => Value.ref x.2) = (ps.map fun x => x.2).map Value.ref by rw [List.map_map]; rfl]
    exact vals_refs _
  have ev : (ps.map fun x => x.2).map V.ref = ps.map fun x => V.ref x.2 := by rw [List.map_map]; rfl
  rw [ev] at rv
  have hz : (ps.map fun x => V.ref x.2).length ≤ sizeLine := by rw [List.length_map]; omega
  refine ⟨.ref s.heap.objs.size, _, I.laid (t' := tk) (o := .lst (ps.map fun x => V.ref x.2)) kp (Nat.le_refl _) ?_, rfl, q _ (I.hok.fresh (Nat.le_refl _))⟩
  exact ⟨hz, acc'.toList, c', rv, by rw [Array.toArray_toList]; exact e⟩
end
end K6
set_option Elab.async false
set_option linter.all false
set_option maxRecDepth 100000
set_option maxHeartbeats 4000000
/-! {node: True for ..}: the dict comprehension of HandS.DictComp (dc_core), turned to dicts whose keys are nodes -/
namespace K6
open PySem PySem.Spec PyProof.Rows L2
section
variable {X : Cx}
def tNdc (K : PySem.W.Frag) (w : World) (wi : TI) (g : TG) (tt : TT) (tk tv : TE) (vs : List Nat) : TE := fun σ H Q => wi σ H fun J H1 => ∀ D, H1 D = none → ∃ W : Nat → Nat → Hp → Prop, (∃ m, W 0 m (upd H1 D (NdO w D []))) ∧ ∀ i m H, W i m H →
  (J.stop i H ∧ Q (.ref D) H) ∨ (J.go i H ∧ ∃ Nx : Hp → Prop, (∀ H', Nx H' → ∃ m', m' < m ∧ W (i + 1) m' H') ∧ ∀ x H', J.yld i H x H' → g x (wipe σ vs) H' fun σ2 H2 => wipe σ2 vs = wipe σ vs ∧ tt σ2 H2 fun b H3 =>
    if b = true then tk σ2 H3 fun y H4 => tv σ2 H4 fun z H5 => ∃ ps k b, z = .bl true ∧ y = .ref b ∧ H5 D = some (NdO w D ps) ∧ Keyed K H5 ps ∧ KeyIs K H5 (.ref b) k ∧ ps.length < sizeLine ∧ Nx (upd H5 D (NdO w D (putN ps k b))) else Nx H3)
theorem nd_core {pins : List (Addr × Obj)} {s : Shared} {σ : L2.St} {H : Hp} {Q : VK} {kx vx tg iter : Expr} {ifs : List Expr} {scope : Scope} {own : List (Str × Nat)} {pos pos' : PySem.Pos} {wi : TI} {g : TG} {tt : TT} {tk tv : TE} {use : Option (Value → Sem Unit)} {Qf : Value → Shared → Prop}
    (hu : X.A.units + 8 < cLine) (hc : X.calm = true) (hN : X.N.Nodup) (I : Inv X pins σ H s) (hi : PI X tg iter wi) (ok : BlkOk X.N X.env.scope scope own)
    (hg : ∀ (s : Shared) (H : Hp) (C : Addr) (cl : List (Str × Addr)) (fp : List Addr), PG (X.blk s H scope (compEnvC scope cl C X.env) fp) tg g) (ht : ∀ (s : Shared) (H : Hp) (C : Addr) (cl : List (Str × Addr)) (fp : List Addr), PTs (X.blk s H scope (compEnvC scope cl C X.env) fp) ifs tt)
    (hk : ∀ (s : Shared) (H : Hp) (C : Addr) (cl : List (Str × Addr)) (fp : List Addr), PE (X.blk s H scope (compEnvC scope cl C X.env) fp) kx tk)
    (he : ∀ (s : Shared) (H : Hp) (C : Addr) (cl : List (Str × Addr)) (fp : List Addr), PE (X.blk s H scope (compEnvC scope cl C X.env) fp) vx tv) (hs : ∀ x, foldedSetIterable iter X.env x = pure x)
    (h : tNdc X.K X.w wi g tt tk tv (own.map (·.2)) σ H Q)
    (hRR : ∀ D C s' m H', Inv X pins σ H' s' → Q (.ref D) H' → s'.heap.Ns C m → FpOk X pins H' C → compPost (model X.prog X.w) X.A X.xe use Qf (.ref D) C (.ok .next) s') :
    wpAny (model X.prog X.w) X.A (comprehension (.DictComp kx vx [⟨tg, iter, ifs, 0⟩] scope pos) scope X.env pos' newDict false (eval iter X.env) use) Qf X.xe s := by
  have hfree : ∀ y ∈ scope.names, y.2 = .free → ∃ c, X.env.cells.lookup y.1 = some c := fun y hy e => by
    rcases ok.free y hy e with k | k
    · exact I.ok.has _ (.inl k)
    · exact I.ok.has _ (.inr k)
  refine wpAny_comprehension_free (use := use) rfl hs (closure_ok hfree) ok.kind (fun y hy e => by rw [ok.uniq y hy, e])
    (thn (hi.run pins s σ H _ I h) fun xv s1 hx => thn hx fun itv s2 h2 => ?_)
  obtain ⟨it, fp, tn, J, H2, e, I2, T, st2, f2, q⟩ := h2
  subst e
  refine wpAny_newObj_type (newEnv_comp ?_)
  generalize hD : s2.heap.objs.size = D
  have hDn : H2 D = none := I2.hok.fresh (Nat.le_of_eq hD)
  obtain ⟨W, ⟨m0, w0⟩, turn⟩ := q D hDn
  -- the new list
  generalize hs3 : ({ s2 with heap := s2.heap.push { cls := .type "dict", data := .dict #[] } } : Shared) = s3
  have I3 : Inv X pins σ (upd H2 D (NdO X.w D [])) s3 := by
    rw [← hs3]
    refine I2.laid (t' := s2.toks) (fun b o e => Heap.get?_push_of_some _ e) (Nat.le_of_eq hD) ?_
    rw [← hD]
    exact nd_empty s2.heap I2.big
  have h3 : s3.heap = s2.heap.push { cls := .type "dict", data := .dict #[] } := by rw [← hs3]
  have sz : ∀ b ∈ fp, b < s2.heap.objs.size := fun b hb => by
    obtain ⟨o, e, _⟩ := T.obj _ _ st2 b hb
    exact Heap.lt_size e
  have f3 : ∀ b ∈ fp, FpOk X pins (upd H2 D (NdO X.w D [])) b ∧ b < s3.heap.objs.size := fun b hb => by
    have hlt := sz b hb
    refine ⟨⟨?_, (f2 b hb).2⟩, by rw [h3, Heap.size_push]; exact Nat.lt_succ_of_lt hlt⟩
    rw [upd_ne (by rw [← hD]; exact Nat.ne_of_lt hlt)]
    exact (f2 b hb).1
  have st3 : tn 0 s3.heap := T.keep _ _ _ st2 fun b _ o e => by rw [h3]; exact Heap.get?_push_of_some _ e
  have I4 := block_start I3 ok hN f3
  have pg := hg s3 (upd H2 D (NdO X.w D [])) s3.heap.objs.size (cellsFrom (s3.heap.objs.size + 1) scope.names (cloFrom X.env.cells scope.names [])) fp
  have pt := ht s3 (upd H2 D (NdO X.w D [])) s3.heap.objs.size (cellsFrom (s3.heap.objs.size + 1) scope.names (cloFrom X.env.cells scope.names [])) fp
  have pk := hk s3 (upd H2 D (NdO X.w D [])) s3.heap.objs.size (cellsFrom (s3.heap.objs.size + 1) scope.names (cloFrom X.env.cells scope.names [])) fp
  have pe := he s3 (upd H2 D (NdO X.w D [])) s3.heap.objs.size (cellsFrom (s3.heap.objs.size + 1) scope.names (cloFrom X.env.cells scope.names [])) fp
  show codeAny _ _ (.compStart (.DictComp kx vx [⟨tg, iter, ifs, 0⟩] scope pos) 0 (.ref it) (.ref D) (compEnvC scope (cellsFrom (s3.heap.objs.size + 1) scope.names (cloFrom X.env.cells scope.names [])) s3.heap.objs.size X.env)) (compPost (model X.prog X.w) X.A X.xe use Qf (.ref D) s3.heap.objs.size) { s3 with heap := pushCells (s3.heap.push { cls := .type "dict", data := .dict #[] }) scope.names }
  have nfp : ∀ b ∈ fp, (upd H2 D (NdO X.w D [])) b = none := fun b hb => (f3 b hb).1.1
  generalize hce : compEnvC scope (cellsFrom (s3.heap.objs.size + 1) scope.names (cloFrom X.env.cells scope.names [])) s3.heap.objs.size X.env = ce at I4 pg pt pk pe ⊢
  have cL : ce.locals = s3.heap.objs.size := by subst hce; rfl
  generalize hH3 : upd H2 D (NdO X.w D []) = H3 at I3 I4 pg pt pk pe w0 nfp f3
  generalize hs4 : ({ s3 with heap := pushCells (s3.heap.push { cls := .type "dict", data := .dict #[] }) scope.names } : Shared) = s4 at I4 ⊢
  have st4 : tn 0 s4.heap := T.keep _ _ _ st3 fun b _ o e => by rw [← hs4]; exact pushCells_keeps _ _ _ _ (Heap.get?_push_of_some _ e)
  have stat : ∀ {σ' : L2.St} {H' : Hp} {s' : Shared}, Inv (X.blk s3 H3 scope ce fp) [] σ' H' s' → (∀ b ∈ fp, H' b = none) → ∀ b ∈ fp, FpOk (X.blk s3 H3 scope ce fp) [] H' b := fun {σ' H' s'} I' hn b hb =>
    ⟨hn b hb, (I'.ok.exf b hb).1, I'.ok.exfs b hb, .inl hb, fun x c e => (I'.ok.exf b hb).2 x c e, fun p hp => absurd (show p ∈ ([] : List (Addr × Obj)) ++ [] from hp) (by simp)⟩
  have loop : codeAny (model X.prog X.w) X.A (.compLoop (.DictComp kx vx [⟨tg, iter, ifs, 0⟩] scope pos) 0 (.ref it) (.ref D) ce) (compPost (model X.prog X.w) X.A X.xe use Qf (.ref D) s3.heap.objs.size) s4 := by
    refine compLoop_anyD (fun n s' => ∃ i H', Inv (X.blk s3 H3 scope ce fp) [] (wipe σ (own.map (·.2))) H' s' ∧ tn i s'.heap ∧ (∀ b ∈ fp, H' b = none) ∧ W i n H') ?_ m0 ⟨0, H3, I4, st4, nfp, w0⟩
    rintro n s5 ⟨i, H5, I5, st5, n5, w5⟩
    rcases turn i n H5 w5 with ⟨stop, qq⟩ | ⟨go, Nx, hNx, step⟩
    · have td := T.done (X.blk s3 H3 scope ce fp) rfl rfl rfl hc i [] s5 _ H5 (fun _ _ => False) I5 (stat I5 n5) st5 stop
      refine thnF td fun r s6 ⟨hr, I6⟩ => ?_
      subst hr
      -- back in the def's context
      have I7 : Inv X pins σ H5 s6 := I3.call' (ch := fp) I6.os I6.base I6.hok I6.bare fun b hb => ⟨(f3 b hb).1.2.2.2.1, (f3 b hb).1.2.1, (f3 b hb).1.2.2.2.2.1, (f3 b hb).1.2.2.2.2.2⟩
      have nC : H5 s3.heap.objs.size = none := by
        have z : H5 ce.locals = none := I6.free
        rw [cL] at z
        exact z
      obtain ⟨m, hn, _⟩ := I6.loc
      have hn : s6.heap.Ns ce.locals m := hn
      rw [cL] at hn
      exact hRR D s3.heap.objs.size s6 m H5 I7 qq hn (I3.fpOk (Nat.le_refl _) nC)
    · have ti := T.item (X.blk s3 H3 scope ce fp) rfl rfl rfl hc i [] s5 _ H5 (fun _ _ => False) I5 (stat I5 n5) st5 go
      refine thnF ti fun r s6 ⟨u, hr, h6⟩ => ?_
      subst hr
      refine thnF h6 fun _ s7 ⟨x, H7, I7, r7, y7, st7, n7⟩ => ?_
      have I7' := I7.pinned (stat I7 n7) (T.obj _ _ st7)
      refine thnF (pg.run _ s7 _ H7 x u _ I7' r7 (step x H7 y7)) fun _ s8 ⟨σ8, H8, I8, hw8, q8⟩ => ?_
      refine thnF (pt.run _ s8 σ8 H8 _ I8 q8) fun b s9 ⟨H9, I9, q9⟩ => ?_
      -- the turn's end
      have fin : ∀ {s' : Shared} {H' : Hp}, Inv (X.blk s3 H3 scope ce fp) ([] ++ pinsAt fp s7.heap) σ8 H' s' → Nx H' → ∃ m, m < n ∧ ∃ i H', Inv (X.blk s3 H3 scope ce fp) [] (wipe σ (own.map (·.2))) H' s' ∧ tn i s'.heap ∧ (∀ b ∈ fp, H' b = none) ∧ W i m H' := fun {s' H'} I' nx => by
        obtain ⟨m', hm, w'⟩ := hNx H' nx
        have pin' : ∀ b ∈ fp, ∀ o, s7.heap.get? b = some o → s'.heap.get? b = some o ∧ H' b = none := fun b hb o e =>
          let z := I'.pin (b, o) (List.mem_append_right _ (List.mem_append_right _ (mem_pinsAt hb e)))
          ⟨z.1, z.2.1⟩
        have hl : (wipe σ (own.map (·.2))).length = σ8.length := by rw [← hw8, wipe_length]
        refine ⟨m', hm, i + 1, H', (I'.unpinned (pins := [])).weak hl (fun j v e => ?_), T.keep _ _ _ st7 fun b hb o e => (pin' b hb o e).1, fun b hb => ?_, w'⟩
        · rw [← hw8] at e
          exact (wipe_some e).1
        · obtain ⟨o, e, _⟩ := T.obj _ _ st7 b hb
          exact (pin' b hb o e).2
      cases b with
      | false =>
        simp only [Bool.false_eq_true, if_false] at q9 ⊢
        exact fin I9 q9
      | true =>
        simp only [if_true] at q9 ⊢
        refine thnF (pk.run _ s9 σ8 H9 _ I9 q9) fun z s10 ⟨yk, H10, I10, r10, q10⟩ => ?_
        refine thnF (pe.run _ s10 σ8 H10 _ I10 q10) fun z2 s11 ⟨yv, H11, I11, r11, ps, k, b, ez, ek, hD11, hk11, hb11, hz11, nx⟩ => ?_
        subst ek ez
        obtain rfl : z = Value.ref b := r10
        obtain rfl : z2 = Value.bool true := r11
        exact nd_dictSet (X := X.blk s3 H3 scope ce fp) hu I11 hD11 hk11 hb11 hz11 fun s12 I12 => fin I12 nx
  exact codeAny_compStart_dict loop (T.self X.A 0 _ _ _ st4 loop)
/-- as a value -/
theorem pe_ndc {kx vx tg iter : Expr} {ifs : List Expr} {scope : Scope} {own : List (Str × Nat)} {pos : PySem.Pos} {wi : TI} {g : TG} {tt : TT} {tk tv : TE} (hu : X.A.units + 8 < cLine) (hc : X.calm = true) (hN : X.N.Nodup) (hi : PI X tg iter wi) (ok : BlkOk X.N X.env.scope scope own)
    (hg : ∀ (s : Shared) (H : Hp) (C : Addr) (cl : List (Str × Addr)) (fp : List Addr), PG (X.blk s H scope (compEnvC scope cl C X.env) fp) tg g) (ht : ∀ (s : Shared) (H : Hp) (C : Addr) (cl : List (Str × Addr)) (fp : List Addr), PTs (X.blk s H scope (compEnvC scope cl C X.env) fp) ifs tt)
    (hk : ∀ (s : Shared) (H : Hp) (C : Addr) (cl : List (Str × Addr)) (fp : List Addr), PE (X.blk s H scope (compEnvC scope cl C X.env) fp) kx tk)
    (he : ∀ (s : Shared) (H : Hp) (C : Addr) (cl : List (Str × Addr)) (fp : List Addr), PE (X.blk s H scope (compEnvC scope cl C X.env) fp) vx tv) (hs : ∀ x, foldedSetIterable iter X.env x = pure x := by intro _; rfl) :
    PE X (.DictComp kx vx [⟨tg, iter, ifs, 0⟩] scope pos) (tNdc X.K X.w wi g tt tk tv (own.map (·.2))) := by
  refine ⟨fun pins s σ H Q I h => ?_⟩
  rw [arm_eval_DictComp]
  refine nd_core hu hc hN I hi ok hg ht hk he hs h fun D C s' m H' I' q hn f => ⟨m, hn, fun h'' sb => ?_⟩
  obtain ⟨f0, f1, f2, f3, f4, f5⟩ := f
  exact ⟨.ref D, H', I'.turned (t' := s'.toks) (fun b o hb e => (sb.2 b hb).trans e) f0 f1 f3 f4 f5, rfl, q⟩

end
theorem lt64 {n k : Nat} (h : n + 64 < cLine) (hk : k ≤ 64 := by decide) : n + k < cLine := by omega
end K6
set_option Elab.async false
set_option linter.all false
set_option maxRecDepth 100000
set_option maxHeartbeats 4000000
namespace K6
open PySem PySem.Spec PyProof.Rows L2
/-! ### closed_from -/
def nK (n : Node) : NestedKey := nkD (nodeD n)
theorem nkDs_ints : ∀ w : List Int, nkDs (w.map PyData.int) = w.map NestedKey.num
  | [] => rfl
  | a :: w => by rw [List.map_cons, nkDs, nkDs_ints w, nkD]; rfl
theorem nK_eq (n : Node) : nK n = .tup [.text (nmS n.nm), .text (ordS n.up), .tup (n.w.map .num)] := by
  show nkD (.tuple [.str (nmS n.nm), .str (ordS n.up), .tuple (n.w.map .int)]) = _
  rw [nkD, nkDs, nkDs, nkDs, nkDs, nkD, nkD, nkD, nkDs_ints]
theorem num_inj : ∀ {v w : List Int}, v.map NestedKey.num = w.map NestedKey.num → v = w
  | [], [], _ => rfl
  | [], _ :: _, h => by simp at h
  | _ :: _, [], h => by simp at h
  | a :: v, b :: w, h => by
    rw [List.map_cons, List.map_cons] at h
    injection h with h1 h2
    injection h1 with h1
    rw [h1, num_inj h2]
theorem nK_inj {m n : Node} (hm : m.nm < 3) (hn : n.nm < 3) (h : nK m = nK n) : m = n := by
  rw [nK_eq, nK_eq] at h
  injection h with h
  injection h with h1 h
  injection h with h2 h
  injection h with h3 _
  injection h1 with h1
  injection h2 with h2
  injection h3 with h3
  obtain ⟨a, u, w⟩ := m
  obtain ⟨b, v, z⟩ := n
  have e1 := nmS_inj hm hn h1
  have e2 := ordS_inj h2
  have e3 := num_inj h3
  simp only at e1 e2 e3
  rw [e1, e2, e3]
theorem depth_nums : ∀ w : List Int, NestedKey.depthAll (w.map NestedKey.num) = 0
  | [] => rfl
  | a :: w => by rw [List.map_cons, NestedKey.depthAll, depth_nums w]; rfl
theorem nK_depth (n : Node) : (nK n).depth ≤ 8 := by
  rw [nK_eq, NestedKey.depth, NestedKey.depthAll, NestedKey.depthAll, NestedKey.depthAll, NestedKey.depthAll, NestedKey.depth, NestedKey.depth, NestedKey.depth, depth_nums]
  decide
theorem key_node {K : PySem.W.Frag} {H : Hp} {v : V} {n : Node} (h : Dp K H v (nodeD n)) : KeyIs K H v (nK n) := ⟨_, h, noL_node n, rfl, nK_depth n⟩
/-- the keys of a dict of nodes -/
def NdKeys (K : PySem.W.Frag) (H : Hp) (ps : List (NestedKey × Addr)) (F : List Node) : Prop := AllR (fun H (p : V) (n : Node) => Dp K H p (nodeD n)) H (ps.map fun p => V.ref p.2) F ∧ ps.map (·.1) = F.map nK
theorem NdKeys.keyed {K : PySem.W.Frag} {H : Hp} {ps : List (NestedKey × Addr)} {F : List Node} (h : NdKeys K H ps F) : Keyed K H ps := fun p hp => by
  obtain ⟨i, hi⟩ := List.mem_iff_getElem?.mp hp
  obtain ⟨n, e, hn⟩ := h.1.2 i (.ref p.2) (by rw [List.getElem?_map, hi]; rfl)
  have e2 : (ps.map (·.1))[i]? = some p.1 := by rw [List.getElem?_map, hi]; rfl
  rw [h.2, List.getElem?_map, e] at e2
  have e3 : nK n = p.1 := by simpa using e2
  rw [← e3]
  exact key_node hn
theorem NdKeys.has {K : PySem.W.Frag} {H : Hp} {ps : List (NestedKey × Addr)} {F : List Node} {n : Node} (h : NdKeys K H ps F) (hF : ∀ m ∈ F, m.nm < 3) (hn : n.nm < 3) : hasN ps (nK n) = decide (n ∈ F) := by
  have e : hasN ps (nK n) = (ps.map (·.1)).any fun k => decide (k = nK n) := by unfold hasN; rw [List.any_map]; rfl
  rw [e, h.2, List.any_map]
  apply Bool.eq_iff_iff.mpr
  rw [List.any_eq_true, decide_eq_true_eq]
  constructor
  · rintro ⟨m, hm, q⟩
    have q' : nK m = nK n := by simpa using q
    rw [← nK_inj (hF m hm) hn q']; exact hm
  · intro q
    exact ⟨n, q, by simp⟩
theorem NdKeys.mono {K : PySem.W.Frag} {H H' : Hp} {ps : List (NestedKey × Addr)} {F : List Node} (s : Same H H') (h : NdKeys K H ps F) : NdKeys K H' ps F := ⟨h.1.mono (fun _ _ _ _ s h => h.mono s) s, h.2⟩
theorem NdKeys.put {K : PySem.W.Frag} {H : Hp} {ps : List (NestedKey × Addr)} {F : List Node} {n : Node} {b : Addr} (h : NdKeys K H ps F) (hF : ∀ m ∈ F, m.nm < 3) (hn : n.nm < 3) (hb : Dp K H (.ref b) (nodeD n)) (hm : ¬ n ∈ F) : NdKeys K H (putN ps (nK n) b) (F ++ [n]) := by
  unfold putN
  rw [h.has hF hn, if_neg (by simpa using hm)]
  refine ⟨?_, by rw [List.map_append, List.map_append, h.2]; rfl⟩
  rw [List.map_append]
  exact h.1.snoc hb
end K6
set_option Elab.async false
set_option linter.all false
set_option maxRecDepth 100000
set_option maxHeartbeats 4000000
namespace K6
open PySem PySem.Spec PyProof.Rows L2
def NodeOk (L : Looms) (n : Node) : Prop := n.nm < L.length ∧ 0 < n.w.length
theorem row_ok {L : Looms} (ok : LOk L) {n m : Node} {r : PRow} (h : RowOf L n r) (e : r.node = some m) : NodeOk L m := by
  obtain ⟨h1, h2, h3⟩ := h
  have hl := h2.len
  rcases h3 with ⟨h3, _⟩ | ⟨s, c, hc, h3⟩
  · rw [h3] at e; cases e
  · rw [h3] at e
    cases e
    refine ⟨call_lt ok hc, ?_⟩
    show 0 < (flipIf c.2 (halfW r.lv s)).length
    rw [length_flipIf, halfW_len]
    omega
theorem nd_it {K : PySem.W.Frag} {w : World} {J : It} {n : Nat} {G : Hp → Prop} {Y : Nat → Hp → V → Hp → Prop} (wk : Walk J n G Y) {g : TG} {tt : TT} {tk tv : TE} {vs : List Nat} {σ : L2.St} {H1 : Hp} {D : Addr} {Qd : Hp → Prop} (Pv : Nat → Hp → Prop) (h0 : Pv 0 (upd H1 D (NdO w D []))) (hG : ∀ i H, i ≤ n → Pv i H → G H)
    (hs : ∀ i x H H', i < n → Pv i H → Y i H x H' → g x (wipe σ vs) H' fun σ2 H2 => wipe σ2 vs = wipe σ vs ∧ tt σ2 H2 fun b H3 =>
      if b = true then tk σ2 H3 fun y H4 => tv σ2 H4 fun z H5 => ∃ ps k b, z = .bl true ∧ y = .ref b ∧ H5 D = some (NdO w D ps) ∧ Keyed K H5 ps ∧ KeyIs K H5 (.ref b) k ∧ ps.length < sizeLine ∧ Pv (i + 1) (upd H5 D (NdO w D (putN ps k b))) else Pv (i + 1) H3) (hd : ∀ H, Pv n H → Qd H) :
    ∃ W : Nat → Nat → Hp → Prop, (∃ m, W 0 m (upd H1 D (NdO w D []))) ∧ ∀ i m H, W i m H →
      (J.stop i H ∧ Qd H) ∨ (J.go i H ∧ ∃ Nx : Hp → Prop, (∀ H', Nx H' → ∃ m', m' < m ∧ W (i + 1) m' H') ∧ ∀ x H', J.yld i H x H' → g x (wipe σ vs) H' fun σ2 H2 => wipe σ2 vs = wipe σ vs ∧ tt σ2 H2 fun b H3 =>
        if b = true then tk σ2 H3 fun y H4 => tv σ2 H4 fun z H5 => ∃ ps k b, z = .bl true ∧ y = .ref b ∧ H5 D = some (NdO w D ps) ∧ Keyed K H5 ps ∧ KeyIs K H5 (.ref b) k ∧ ps.length < sizeLine ∧ Nx (upd H5 D (NdO w D (putN ps k b))) else Nx H3) := by
  refine ⟨fun i m H => m = n - i ∧ i ≤ n ∧ Pv i H, ⟨n, by simp, Nat.zero_le _, h0⟩, ?_⟩
  rintro i m H ⟨rfl, hi, p⟩
  have q := hG i H hi p
  by_cases hlt : i < n
  · refine .inr ⟨wk.goes i H hlt q, Pv (i + 1), fun H' p' => ⟨n - (i + 1), by omega, rfl, hlt, p'⟩, fun x H' y => ?_⟩
    exact hs i x H H' hlt p (wk.yields i H x H' hlt q y)
  · have e : i = n := by omega
    subst e
    exact .inl ⟨wk.stops H q, hd H p⟩
/-- the nodes told by a list, each once -/
def addN (F : List Node) (n : Node) : List Node := if n ∈ F then F else F ++ [n]
theorem NdKeys.add {K : PySem.W.Frag} {H : Hp} {ps : List (NestedKey × Addr)} {F : List Node} {n : Node} {b : Addr} (h : NdKeys K H ps F) (hF : ∀ m ∈ F, m.nm < 3) (hn : n.nm < 3) (hb : Dp K H (.ref b) (nodeD n)) : NdKeys K H (putN ps (nK n) b) (addN F n) := by
  unfold addN
  split
  · rename_i q
    unfold putN
    rw [h.has hF hn, if_pos (by simpa using q)]
    exact h
  · rename_i q
    exact h.put hF hn hb q
theorem mem_addN {F : List Node} {n m : Node} : m ∈ addN F n ↔ m ∈ F ∨ m = n := by
  unfold addN
  split
  · rename_i q
    exact ⟨.inl, fun h => h.elim id fun e => e ▸ q⟩
  · simp
theorem mem_addNs : ∀ {l F : List Node} {m : Node}, m ∈ l.foldl addN F ↔ m ∈ F ∨ m ∈ l
  | [], F, m => by simp
  | a :: l, F, m => by
    rw [List.foldl_cons, mem_addNs, mem_addN, List.mem_cons, or_assoc]
theorem addNs_len : ∀ {l F : List Node}, (l.foldl addN F).length ≤ F.length + l.length
  | [], F => Nat.le_refl _
  | a :: l, F => by
    rw [List.foldl_cons]
    have h1 := addNs_len (l := l) (F := addN F a)
    have h2 : (addN F a).length ≤ F.length + 1 := by unfold addN; split <;> simp
    rw [List.length_cons]; omega
theorem NdKeys.len {K : PySem.W.Frag} {H : Hp} {ps : List (NestedKey × Addr)} {F : List Node} (h : NdKeys K H ps F) : ps.length = F.length := by
  have := congrArg List.length h.2
  simpa using this
theorem addNs_nodup : ∀ {l F : List Node}, F.Nodup → (l.foldl addN F).Nodup
  | [], F, h => h
  | a :: l, F, h => by
    rw [List.foldl_cons]
    refine addNs_nodup ?_
    unfold addN
    split
    · exact h
    · rename_i q
      rw [List.nodup_append]
      refine ⟨h, by simp, fun x hx y hy => ?_⟩
      rw [List.mem_singleton.mp hy]
      intro e
      exact q (e ▸ hx)
abbrev NodeR (K : PySem.W.Frag) : Hp → V → Node → Prop := fun H p n => Dp K H p (nodeD n)
theorem nodeR_mono {K : PySem.W.Frag} : ∀ (H H' : Hp) (x : V) (a : Node), Same H H' → NodeR K H x a → NodeR K H' x a := fun _ _ _ _ s h => h.mono s
structure ClS (w : World) (K : PySem.W.Frag) (H : Hp) (pf pw : Addr) (F W : List Node) (ps : List (NestedKey × Addr)) (wxs : List V) (Hx : Hp) : Prop where
  s : Same H Hx
  nf : H pf = none
  nw : H pw = none
  ne : pf ≠ pw
  hf : Hx pf = some (NdO w pf ps)
  hw : Hx pw = some (.lst wxs)
  kf : NdKeys K (own [pf, pw] H Hx) ps F
  kw : AllR (NodeR K) (own [pf, pw] H Hx) wxs W
section
variable {w : World} {K : PySem.W.Frag} {H Hx Hy : Hp} {pf pw : Addr} {F W : List Node} {ps : List (NestedKey × Addr)} {wxs : List V} {n : Node}
theorem ClS.grow (h : ClS w K H pf pw F W ps wxs Hx) (e : Same Hx Hy) : ClS w K H pf pw F W ps wxs Hy :=
  ⟨h.s.trans e, h.nf, h.nw, h.ne, e _ _ h.hf, e _ _ h.hw, h.kf.mono (own_same e), h.kw.mono nodeR_mono (own_same e)⟩
theorem ClS.lists (h : ClS w K H pf pw F W ps wxs Hx) : ∀ l ∈ [pf, pw], ∃ o, Hx l = some o ∧ isTup o = false := fun l hl => by
  rcases List.mem_cons.mp hl with q | q
  · rw [q]; exact ⟨_, h.hf, rfl⟩
  · rw [List.mem_singleton.mp q]; exact ⟨_, h.hw, rfl⟩
theorem ClS.pushW (h : ClS w K H pf pw F W ps wxs Hx) {v : V} (hv : Dp K Hx v (nodeD n)) : ClS w K H pf pw F (W ++ [n]) ps (wxs ++ [v]) (upd Hx pw (.lst (wxs ++ [v]))) := by
  have e : own [pf, pw] H (upd Hx pw (.lst (wxs ++ [v]))) = own [pf, pw] H Hx := own_upd (by simp)
  refine ⟨same_upd_new h.s h.nw, h.nf, h.nw, h.ne, by rw [upd_ne h.ne]; exact h.hf, upd_same, by rw [e]; exact h.kf, ?_⟩
  rw [e]
  exact h.kw.snoc (dp_own h.s h.lists (noL_node n) hv)
theorem ClS.put (h : ClS w K H pf pw F W ps wxs Hx) {b : Addr} (hF : ∀ m ∈ F, m.nm < 3) (hn : n.nm < 3) (hm : ¬ n ∈ F) (hb : Dp K Hx (.ref b) (nodeD n)) :
    ClS w K H pf pw (F ++ [n]) W (putN ps (nK n) b) wxs (upd Hx pf (NdO w pf (putN ps (nK n) b))) := by
  have e : own [pf, pw] H (upd Hx pf (NdO w pf (putN ps (nK n) b))) = own [pf, pw] H Hx := own_upd (by simp)
  refine ⟨same_upd_new h.s h.nf, h.nf, h.nw, h.ne, upd_same, by rw [upd_ne (Ne.symm h.ne)]; exact h.hw, ?_, by rw [e]; exact h.kw⟩
  rw [e]
  exact h.kf.put hF hn (dp_own h.s h.lists (noL_node n) hb) hm
theorem ClS.pop (h : ClS w K H pf pw F (W ++ [n]) ps wxs Hx) : ∃ v, wxs[wxs.length - 1]? = some v ∧ Dp K Hx v (nodeD n) ∧ ClS w K H pf pw F W ps wxs.dropLast (upd Hx pw (.lst wxs.dropLast)) := by
  have hl : wxs.length = W.length + 1 := by have := h.kw.1; simpa using this
  have hlt : wxs.length - 1 < wxs.length := by omega
  obtain ⟨m, e1, e2⟩ := h.kw.2 (wxs.length - 1) wxs[wxs.length - 1] (by simp)
  have em : m = n := by
    rw [hl, Nat.add_sub_cancel, List.getElem?_append_right (Nat.le_refl _)] at e1
    simpa using e1.symm
  subst em
  have e : own [pf, pw] H (upd Hx pw (.lst wxs.dropLast)) = own [pf, pw] H Hx := own_upd (by simp)
  refine ⟨_, List.getElem?_eq_getElem hlt, e2.mono own_le, same_upd_new h.s h.nw, h.nf, h.nw, h.ne, by rw [upd_ne h.ne]; exact h.hf, upd_same, by rw [e]; exact h.kf, ?_⟩
  rw [e]
  have := h.kw.take W.length
  rw [List.take_left] at this
  rw [List.dropLast_eq_take, hl, Nat.add_sub_cancel]
  exact this
end
theorem own_more {H H1 : Hp} {pf pw : Addr} {o : HO} (hp : H1 pw = none) : Same (own [pf] H H1) (own [pf, pw] H (upd H1 pw o)) := fun b u e => by
  have hb : b ≠ pw := ne_of_none (own_le _ _ e) hp
  have hf : b ∉ [pf] := fun q => by unfold own at e; rw [drp_in q] at e; cases e
  have h2 : b ∉ [pf, pw] := fun q => by
    rcases List.mem_cons.mp q with q | q
    · exact hf (by simp [q])
    · exact hb (List.mem_singleton.mp q)
  unfold own at e ⊢
  rw [drp_not hf] at e
  rw [drp_not h2]
  exact fsh_mono (same_new hp) _ _ e
theorem ClIn.size {L : Looms} {S F W : List Node} {n : Node} {rs : List PRow} {i : Nat} (h : ClIn L S F W n rs i) : F.length ≤ 186 := by
  rw [← uni_len]
  exact nodup_le F uni h.nd fun n hn => good_uni (h.g n hn)
section
variable {P : Program} {w : World} {K : PySem.W.Frag} {mg : Str → Option Value} {base : Heap} {D : Ads}
theorem AllR.of_eq {α : Type} {R : Hp → V → α → Prop} {H H' : Hp} {xs : List V} {as : List α} (e : H = H') (h : AllR R H xs as) : AllR R H' xs as := e ▸ h
def spClosedFrom (w : World) (K : PySem.W.Frag) (D : Ads) : Sp := fun vs H Q _ => ∃ (v : V) (L : Looms) (na : Addr) (xs : List V) (S : List Node), vs = [v, .ref na] ∧ LoomsAt K H v L ∧ LOk L ∧ SqL K H na xs ∧ AllR (fun H p (n : Node) => Dp K H p (nodeD n)) H xs S ∧ (∀ n ∈ S, Good n ∧ NodeOk L n) ∧ S.length ≤ 4 ∧
  ((∃ s ∈ S, ∃ d, RB L d s) → ∀ H', Same H H' → Q .non H') ∧
  ∀ (H' : Hp) (f : Addr) (ps : List (NestedKey × Addr)) (F : List Node), Same H H' → H f = none → H' f = some (NdO w f ps) → NdKeys K H' ps F → (∀ n ∈ S, n ∈ F) → Closed L F → (∀ n ∈ F, From L S n ∧ Good n ∧ NodeOk L n) → F.Nodup → F.length ≤ 186 → Q (.ref f) H'
theorem ok_closedFrom (U : Txu w K mg D) : FnOk P w K mg base CX0 10 (D.d 50).f (D.d 50).fd ["looms", "nodes"] (spClosedFrom w K D) := by
  have T := U.T
  refine T.w50.F.ok scClosedFrom (fun vs H Q E h => ?_) (fun cdv A outer s H vs Q E hr h => ?_)
  · obtain ⟨_, _, _, _, _, rfl, _⟩ := h
    rfl
  · obtain ⟨v, L, na, xs, S, rfl, hL, ok, hn, hx, hS, h4, kN, k⟩ := h
    refine ⟨_, (pss_cons (ps_par (i := 2) (j := 3) (by rfl) scClosedFrom.nd rfl rfl (by decide) rfl rfl (pa_cons (pe_ndc (own := [("node", 5)]) (lt64 hr.units) (by rfl) scClosedFrom.nd (pi_list (pv 1)) (blkOk_by (own := [("node", 5)]) (N := ["looms", "nodes", "found", "waiting", "row", "node"]) (sc := defScope sClosedFrom) (by decide +kernel)) (fun _ _ _ _ _ => (pg_name (i := 5) scClosedFrom.nd rfl (by first | exact Or.inl rfl | exact Or.inr rfl))) (fun _ _ _ _ _ => pts_nil) (fun _ _ _ _ _ => (pv 5)) (fun _ _ _ _ _ => pe_bl)) (pa_cons (pe_callTy call_list_of (by rfl) T.list boot_list (pa_cons (pv 1) pa_nil)) pa_nil)) (by rfl))
      (pss_cons (ps_while PassesOwn.never (pt_cmpR (op_neNil hr.units0) (pv 3) (pe_lst pa_nil) (nomark _)) (pss_one (ps_for PassesOwn.never rfl (pi_list (pe_call (ok_stepsOf U) (hr.mono (by decide)) (by rfl) T.w44.m T.w44.F.kp T.w44.B .nil pass0 (pa_cons (pv 0) (pa_cons (pe_bm0 PySem.F.plainAttrs_list PySem.F.slot_list_pop PySem.F.type_list_pop mt_pop (pv 3)) pa_nil)))) (pg_name (i := 4) scClosedFrom.nd rfl (by first | exact Or.inl rfl | exact Or.inr rfl)) (pss_cons (ps_if (pt_cmp (pc_isN (pe_ix ix_tup (pv 4) pe_int (fun _ _ => rfl))) rfl) (pss_one (ps_ret pe_non)) pss_nil)
      (pss_one (ps_if (pt_cmp (pc_ndnotin (lt64 hr.units) (pe_ix ix_tup (pv 4) pe_int (fun _ _ => rfl)) (pv 2)) (by rfl)) (pss_cons (ps_ndput (lt64 hr.units) (pv 2) (pe_ix ix_tup (pv 4) pe_int (fun _ _ => rfl)) pe_bl rfl)
      (pss_one (ps_expr (pe_bm PySem.F.plainAttrs_list PySem.F.slot_list_append PySem.F.type_list_append mt_append (pv 3) (pa_cons (pe_ix ix_tup (pv 4) pe_int (fun _ _ => rfl)) pa_nil))))) pss_nil))))))
      (pss_one (ps_ret (pv 2))))), ?_⟩
    have hS3 : ∀ n ∈ S, n.nm < 3 := fun n hn => (hS n hn).1.1
    refine ⟨_, rfl, na, rfl, ⟨_, hn⟩, fun pf hpf => ?_⟩
    refine nd_it (walk_list (K := K) (a := na) (xs := xs)) (fun i Hx => ∃ ps, Same H Hx ∧ Hx pf = some (NdO w pf ps) ∧ NdKeys K (own [pf] H Hx) ps ((S.take i).foldl addN [])) ⟨[], same_new hpf, upd_same, .nil, rfl⟩ (fun i Hx _ ⟨_, h, _⟩ => h.seq hn) ?_ ?_
    · rintro i x Hx Hy hi ⟨ps, sH, hD, hk⟩ ⟨rfl, ex⟩
      obtain ⟨n, en, hnd⟩ := hx.2 i x ex
      obtain ⟨b, _, rfl, _⟩ := node_get hnd
      have hl : ∀ l ∈ [pf], ∃ o, Hy l = some o ∧ isTup o = false := fun l hl => by
        rw [List.mem_singleton.mp hl]; exact ⟨_, hD, rfl⟩
      have hb2 : Dp K (own [pf] H Hy) (.ref b) (nodeD n) := dp_own sH hl (noL_node n) (hnd.mono sH)
      have hF3 : ∀ m ∈ (S.take i).foldl addN [], m.nm < 3 := fun m hm => hS3 m (by
        rcases mem_addNs.mp hm with q | q
        · simp at q
        · exact List.mem_of_mem_take q)
      refine ⟨rfl, _, rfl, ps, nK n, b, rfl, rfl, hD, (hk.mono own_le).keyed, key_node (hnd.mono sH), ?_, _, same_upd_new sH hpf, upd_same, ?_⟩
      · have h1 := hk.len
        have h2 := addNs_len (l := S.take i) (F := [])
        have h3 : (S.take i).length ≤ 4 := by rw [List.length_take]; omega
        have : ps.length ≤ 4 := by rw [h1]; simpa using Nat.le_trans h2 (by simpa using h3)
        exact Nat.lt_of_le_of_lt this (by decide)
      · rw [own_upd (by simp), List.take_add_one, en, List.foldl_append]
        exact hk.add hF3 (hS3 n (List.mem_of_getElem? en)) hb2
    · rintro Hx ⟨ps, sH, hD, hk⟩
      have e0 : S.take xs.length = S := by rw [hx.1, List.take_length]
      rw [e0] at hk
      refine ⟨_, rfl, na, xs, rfl, .inl (sH.seq hn), fun pw hpw => ?_⟩
      have s1 := same_new (o := .lst xs) hpw
      have nw : H pw = none := by
        cases q : H pw with
        | none => rfl
        | some u => rw [sH _ _ q] at hpw; cases hpw
      have ne : pf ≠ pw := fun e => by rw [e, hpw] at hD; cases hD
      have start : ClS w K H pf pw (S.foldl addN []) S ps xs (upd Hx pw (.lst xs)) := by
        have e1 : Same (own [pf] H Hx) (own [pf, pw] H (upd Hx pw (.lst xs))) := own_more hpw
        refine ⟨sH.trans s1, hpf, nw, ne, s1 _ _ hD, upd_same, hk.mono e1, ?_⟩
        have hl : ∀ l ∈ [pf, pw], ∃ o, (upd Hx pw (.lst xs)) l = some o ∧ isTup o = false := fun l hl => by
          rcases List.mem_cons.mp hl with q | q
          · rw [q]; exact ⟨_, s1 _ _ hD, rfl⟩
          · rw [List.mem_singleton.mp q]; exact ⟨_, upd_same, rfl⟩
        refine ⟨hx.1, fun i x e => ?_⟩
        obtain ⟨n, en, hnd⟩ := hx.2 i x e
        exact ⟨n, en, dp_own (sH.trans s1) hl (noL_node n) (hnd.mono (sH.trans s1))⟩
      have cl0 : ClInv L S (S.foldl addN []) S := by
        have hm : ∀ n, n ∈ S.foldl addN [] ↔ n ∈ S := fun n => by rw [mem_addNs]; simp
        exact ⟨fun n q => (hm n).mpr q, fun n q => ⟨n, (hm n).mp q, fun d hd => ⟨d, hd⟩⟩, addNs_nodup List.nodup_nil, fun n q => (hS n ((hm n).mp q)).1, fun n q => (hm n).mpr q, fun n q => .inl ((hm n).mp q)⟩
      have ok0 : ∀ n ∈ S.foldl addN [], NodeOk L n := fun n q => (hS n (by rw [mem_addNs] at q; simpa using q)).2
      generalize upd Hx pw (.lst xs) = H1 at start ⊢
      generalize S.foldl addN [] = F0 at start cl0 ok0
      refine ⟨_, _, rfl, fun m σ Hx => ∃ z F W ps wxs, σ = [some v, some (.ref na), some (.ref pf), some (.ref pw), z, none] ∧ ClS w K H pf pw F W ps wxs Hx ∧ ClInv L S F W ∧ (∀ n ∈ F, NodeOk L n) ∧ m = clM F W ∧ m ≤ 376, ⟨_, none, _, _, _, _, rfl, start, cl0, ok0, rfl, by unfold clM; omega⟩, ?_⟩
      rintro m σ Hx ⟨z, F, W, ps, wxs, rfl, hC, hV, hO, rfl, hB⟩
      have hsF := hV.size
      have hFl := hC.kf.len
      have hWl : wxs.length = W.length := hC.kw.1
      refine ⟨_, rfl, Nat.zero_le _, fun q hq => ?_⟩
      have hC1 := hC.grow (same_new (o := .lst []) hq)
      generalize hHq : upd Hx q (.lst []) = Hq at hC1 ⊢
      refine ⟨pw, q, wxs, rfl, rfl, hC1.hw, by rw [← hHq]; exact upd_same, _, rfl, ?_⟩
      rcases List.eq_nil_or_concat W with hW | ⟨W0, n, hW⟩
      · subst hW
        have ew : wxs = [] := List.eq_nil_of_length_eq_zero (by rw [hWl]; rfl)
        subst ew
        refine iteF ?_
        exact ⟨_, rfl, k Hq pf ps F hC1.s hC1.nf hC1.hf (hC1.kf.mono own_le) hV.s hV.done (fun n hn => ⟨hV.f n hn, hV.g n hn, hO n hn⟩) hV.nd hsF⟩
      · rw [List.concat_eq_append] at hW
        subst hW
        have ne : wxs.isEmpty = false := by
          cases wxs with
          | nil => simp at hWl
          | cons _ _ => rfl
        rw [ne]
        refine iteT ?_
        refine ⟨fun σ' H' => ∃ z F2 W2 ps wxs, σ' = [some v, some (.ref na), some (.ref pf), some (.ref pw), z, none] ∧ ClS w K H pf pw F2 W2 ps wxs H' ∧ ClInv L S F2 W2 ∧ (∀ n ∈ F2, NodeOk L n) ∧ clM F2 W2 < clM F (W0 ++ [n]), ?_, ?_⟩
        · rintro σ' H' ⟨z, F2, W2, ps, wxs, rfl, a1, a2, a3, a4⟩
          exact ⟨_, a4, z, F2, W2, ps, wxs, rfl, a1, a2, a3, rfl, Nat.le_trans (Nat.le_of_lt a4) hB⟩
        obtain ⟨y, ev, hv, hC2⟩ := hC1.pop
        have hnF := hV.w n (by simp)
        refine ⟨_, rfl, _, rfl, .inl ⟨rfl, _, SqL.of hC1.hw⟩, pw, wxs, y, rfl, rfl, hC1.hw, ev, ?_⟩
        have hv2 : Dp K (upd Hq pw (.lst wxs.dropLast)) y (nodeD n) := (dp_own hC1.s hC1.lists (noL_node _) hv).mono (by
          have e : own [pf, pw] H (upd Hq pw (.lst wxs.dropLast)) = own [pf, pw] H Hq := own_upd (by simp)
          rw [← e]
          exact own_le)
        generalize upd Hq pw (.lst wxs.dropLast) = H2 at hC2 hv2 ⊢
        generalize wxs.dropLast = wxs2 at hC2 ⊢
        refine ⟨v, y, L, n, rfl, hL.mono hC2.s, ok, hv2, (hO n hnF).1, (hO n hnF).2, (hV.g n hnF).2.2, ?_⟩
        intro H3 p rxs rs s3 hp np hR hmem hlen
        have hC3 := hC2.grow s3
        have hR3 : AllR (RowAt K D) (own [pf, pw] H H3) rxs rs := hR.mono (fun _ _ _ _ s h => h.mono s) (own_fsh hC2.s hC2.lists)
        refine ⟨p, rfl, ⟨_, SqL.of hp⟩, ?_⟩
        have hpf' : p ≠ pf := fun e => by rw [e, hC2.hf] at np; cases np
        have hpw' : p ≠ pw := fun e => by rw [e, hC2.hw] at np; cases np
        have hlen' : rs.length = rxs.length := hR.1.symm
        refine for_it (walk_list (K := K) (a := p) (xs := rxs)) (fun i σ Hy => ∃ z F2 W2 ps wxs, σ = [some v, some (.ref na), some (.ref pf), some (.ref pw), z, none] ∧ ClS w K H pf pw F2 W2 ps wxs Hy ∧ ClIn L S F2 W2 n rs i ∧ (∀ n ∈ F2, NodeOk L n) ∧ clM F2 W2 ≤ clM F W0 ∧ Hy p = some (.lst rxs) ∧ AllR (RowAt K D) (own [pf, pw] H Hy) rxs rs) ⟨z, F, W0, _, _, rfl, hC3, hV.enter, hO, Nat.le_refl _, hp, hR3⟩ (fun i σ Hy _ ⟨_, _, _, _, _, _, _, _, _, _, h, _⟩ => SqL.of h) ?_ ?_
        · rintro i x σ Hx5 Hy hi ⟨z, F2, W2, ps, wxs, rfl, hC, hI, hO2, hM, hp5, hR5⟩ ⟨rfl, ex⟩
          obtain ⟨r, er, hrow⟩ := hR5.2 i x ex
          obtain ⟨a, vl, nv, rfl, hSq, _, hnv⟩ := hrow
          have hSq5 := tupS own_le hSq
          have hnv5 := hnv.mono own_le
          have hrow' : RowOf L n r := (hmem r).mp (List.mem_of_getElem? er)
          refine ⟨_, rfl, a, _, _, nv, rfl, rfl, hSq5, at_of (j := 2) rfl rfl, _, rfl, ?_⟩
          cases hrn : r.node with
          | none =>
            rw [hrn] at hnv5
            have ev := Dp.isNone hnv5
            subst ev
            exact iteT (kN (hI.bad hrow' hrn) _ hC.s)
          | some m =>
            rw [hrn] at hnv hnv5
            obtain ⟨b, _, rfl, _⟩ := node_get hnv5
            refine iteF ?_
            have hF3 : ∀ m ∈ F2, m.nm < 3 := fun m hm => (hI.g m hm).1
            have hm := row_good ok.wf (hI.g n hI.isin) hrow' hrn
            refine ⟨_, rfl, a, _, _, .ref b, rfl, rfl, hSq5, at_of (j := 2) rfl rfl, _, rfl, pf, b, ps, nK m, rfl, rfl, hC.hf, (hC.kf.mono own_le).keyed, key_node hnv5, _, rfl, ?_⟩
            rw [if_pos rfl, hC.kf.has hF3 hm.1.1]
            by_cases hmF : m ∈ F2
            · rw [decide_eq_true hmF]
              refine iteF ⟨_, F2, W2, ps, wxs, rfl, hC, hI.old er hrn hmF, hO2, hM, hp5, hR5⟩
            · rw [decide_eq_false hmF]
              refine iteT ?_
              have hI2 := hI.fresh ok.wf er hrow' hrn hmF
              have hC2' := hC.put hF3 hm.1.1 hmF hnv5
              have hs1 := hI.size
              have hs2 := hI2.size
              have hl1 := hC.kf.len
              have hw1 : wxs.length = W2.length := hC.kw.1
              have hs0 := hV.size
              have hp6 : (upd Hy pf (NdO w pf (putN ps (nK m) b))) p = some (.lst rxs) := by rw [upd_ne hpf']; exact hp5
              have e6 : own [pf, pw] H (upd Hy pf (NdO w pf (putN ps (nK m) b))) = own [pf, pw] H Hy := own_upd (by simp)
              have hR6 : AllR (RowAt K D) (own [pf, pw] H (upd Hy pf (NdO w pf (putN ps (nK m) b)))) rxs rs := by rw [e6]; exact hR5
              have hSq6 : SqT K (upd Hy pf (NdO w pf (putN ps (nK m) b))) a [vl, sideV r.side, .ref b, .bl r.turned] := by
                have := tupS (own_le (ls := [pf, pw]) (H := H)) (show SqT K (own [pf, pw] H (upd Hy pf (NdO w pf (putN ps (nK m) b)))) a [vl, sideV r.side, .ref b, .bl r.turned] by rw [e6]; exact hSq)
                exact this
              have hnv6 : Dp K (upd Hy pf (NdO w pf (putN ps (nK m) b))) (.ref b) (nodeD m) := by
                have h0 : Dp K (own [pf, pw] H (upd Hy pf (NdO w pf (putN ps (nK m) b)))) (.ref b) (nodeD m) := by rw [e6]; exact hnv
                exact h0.mono own_le
              have zl : sizeLine = 16777216 := sizeLine_eq
              refine ⟨_, rfl, _, rfl, a, _, _, .ref b, rfl, rfl, hSq5, at_of (j := 2) rfl rfl, pf, b, ps, nK m, rfl, rfl, rfl, hC.hf, (hC.kf.mono own_le).keyed, key_node hnv5, by omega, ?_⟩
              refine ⟨_, rfl, .inl ⟨rfl, _, SqL.of hC2'.hw⟩, _, rfl, a, _, _, .ref b, rfl, rfl, hSq6, at_of (j := 2) rfl rfl, pw, wxs, _, rfl, rfl, hC2'.hw, ?_, ?_⟩
              · have := hI.w
                have hw2 : W2.length ≤ 376 := by
                  have h1 := hM
                  unfold clM at h1 hB
                  rw [List.length_append] at hB
                  omega
                omega
              have hC3' := hC2'.pushW hnv6
              have e7 : own [pf, pw] H (upd (upd Hy pf (NdO w pf (putN ps (nK m) b))) pw (.lst (wxs ++ [.ref b]))) = own [pf, pw] H (upd Hy pf (NdO w pf (putN ps (nK m) b))) := own_upd (by simp)
              refine ⟨_, _, _, _, _, rfl, hC3', hI2, ?_, ?_, by rw [upd_ne hpw']; exact hp6, AllR.of_eq e7.symm hR6⟩
              · intro k hk
                rcases List.mem_append.mp hk with q | q
                · exact hO2 k q
                · rw [List.mem_singleton.mp q]; exact row_ok ok hrow' hrn
              · refine Nat.le_trans ?_ hM
                rw [List.length_append] at hs2
                unfold clM
                rw [List.length_append, List.length_append]
                show W2.length + 1 + 2 * (186 - (F2.length + 1)) ≤ _
                have : ([m] : List Node).length = 1 := rfl
                omega
        · rintro σ Hy ⟨z, F2, W2, ps, wxs, rfl, hC, hI, hO2, hM, hp5, hR5⟩
          refine ⟨z, F2, W2, ps, wxs, rfl, hC, ?_, hO2, ?_⟩
          · rw [← hlen'] at hI
            exact hI.leave hmem
          · refine Nat.lt_of_le_of_lt hM ?_
            unfold clM
            rw [List.length_append]
            show _ < W0.length + 1 + _
            omega
end
end K6
set_option Elab.async false
set_option linter.all false
set_option maxRecDepth 100000
set_option maxHeartbeats 4000000
namespace K6
open PySem PySem.Spec PyProof.Rows L2
section
variable {P : Program} {w : World} {K : PySem.W.Frag} {mg : Str → Option Value} {base : Heap} {D : Ads}
def spKeptInit (K : PySem.W.Frag) (D : Ads) : Sp := fun vs H Q _ => ∃ (a dx na : Addr) (xs : List V), vs = [.ref a, .ref na] ∧ H a = some (.ins D.kept dx []) ∧ SqL K H na xs ∧ ∀ p, H p = none → Q .non (upd (upd H p (.lst xs)) a (.ins D.kept dx (putF "nodes" (.ref p) [])))
theorem ok_keptInit (T : Txt K mg D) : FnOk P w K mg base CX0 1 (D.d 460).f (D.d 460).fd ["self", "nodes"] (spKeptInit K D) := by
  refine T.w460.F.ok scKeptInit (fun vs H Q E h => ?_) (fun cdv A outer s H vs Q E hr h => ?_)
  · obtain ⟨_, _, _, _, rfl, _⟩ := h
    rfl
  · obtain ⟨a, dx, na, xs, rfl, ha, hn, k⟩ := h
    refine ⟨_, (pss_one (ps_fld (pv 0) (pe_callTy call_list_of (by rfl) T.list boot_list (pa_cons (pv 1) pa_nil)) rfl)), ?_⟩
    refine ⟨_, rfl, na, xs, rfl, .inl hn, fun p hp => ?_⟩
    have hne : p ≠ a := fun e => by rw [e, ha] at hp; cases hp
    exact ⟨_, rfl, a, D.kept, dx, [], rfl, by rw [upd_ne (Ne.symm hne)]; exact ha, T.keptC, T.keptN, by decide, k p hp⟩
def spBrokenInit (K : PySem.W.Frag) (D : Ads) : Sp := fun vs H Q _ => ∃ (a dx na : Addr) (xs : List V), vs = [.ref a, .ref na] ∧ H a = some (.ins D.broken dx []) ∧ SqL K H na xs ∧ ∀ p, H p = none → Q .non (upd (upd H p (.lst xs)) a (.ins D.broken dx (putF "row" (.ref p) [])))
theorem ok_brokenInit (T : Txt K mg D) : FnOk P w K mg base CX0 1 (D.d 470).f (D.d 470).fd ["self", "row"] (spBrokenInit K D) := by
  refine T.w470.F.ok scBrokenInit (fun vs H Q E h => ?_) (fun cdv A outer s H vs Q E hr h => ?_)
  · obtain ⟨_, _, _, _, rfl, _⟩ := h
    rfl
  · obtain ⟨a, dx, na, xs, rfl, ha, hn, k⟩ := h
    refine ⟨_, (pss_one (ps_fld (pv 0) (pe_callTy call_list_of (by rfl) T.list boot_list (pa_cons (pv 1) pa_nil)) rfl)), ?_⟩
    refine ⟨_, rfl, na, xs, rfl, .inl hn, fun p hp => ?_⟩
    have hne : p ≠ a := fun e => by rw [e, ha] at hp; cases hp
    exact ⟨_, rfl, a, D.broken, dx, [], rfl, by rw [upd_ne (Ne.symm hne)]; exact ha, T.brokenC, T.brokenN, by decide, k p hp⟩
def spSearchInit (K : PySem.W.Frag) (D : Ads) : Sp := fun vs H Q _ => ∃ (a dx : Addr) (v : V), vs = [.ref a, v] ∧ H a = some (.ins D.search dx []) ∧ Q .non (upd H a (.ins D.search dx (putF "looms" v [])))
theorem ok_searchInit (T : Txt K mg D) : FnOk P w K mg base CX0 1 (D.d 530).f (D.d 530).fd ["self", "looms"] (spSearchInit K D) := by
  refine T.w530.F.ok scSearchInit (fun vs H Q E h => ?_) (fun cdv A outer s H vs Q E hr h => ?_)
  · obtain ⟨_, _, _, rfl, _⟩ := h
    rfl
  · obtain ⟨a, dx, v, rfl, ha, k⟩ := h
    refine ⟨_, (pss_one (ps_fld (pv 0) (pv 1) rfl)), ?_⟩
    exact ⟨_, rfl, _, rfl, a, D.search, dx, [], rfl, ha, T.searchC, T.searchN, by decide, k⟩
def spKeptBool : Sp := fun vs H Q _ => ∃ v, vs = [v] ∧ Q (.bl true) H
theorem ok_keptBool (T : Txt K mg D) : FnOk P w K mg base CX0 1 (D.d 462).f (D.d 462).fd ["self"] spKeptBool := by
  refine T.w462.F.ok scKeptBool (fun vs H Q E h => ?_) (fun cdv A outer s H vs Q E hr h => ?_)
  · obtain ⟨_, rfl, _⟩ := h
    rfl
  · obtain ⟨v, rfl, k⟩ := h
    exact ⟨_, (pss_one (ps_ret pe_bl)), k⟩
def spBrokenBool : Sp := fun vs H Q _ => ∃ v, vs = [v] ∧ Q (.bl false) H
theorem ok_brokenBool (T : Txt K mg D) : FnOk P w K mg base CX0 1 (D.d 472).f (D.d 472).fd ["self"] spBrokenBool := by
  refine T.w472.F.ok scBrokenBool (fun vs H Q E h => ?_) (fun cdv A outer s H vs Q E hr h => ?_)
  · obtain ⟨_, rfl, _⟩ := h
    rfl
  · obtain ⟨v, rfl, k⟩ := h
    exact ⟨_, (pss_one (ps_ret pe_bl)), k⟩
end
end K6
set_option Elab.async false
set_option linter.all false
set_option maxRecDepth 100000
set_option maxHeartbeats 4000000
/-! len(set(xs)) of a list of truth values -/
namespace K6
open PySem PySem.Spec PyProof.Rows L2 PpSet
def cntB (bs : List Bool) : Nat := (if bs.any (· == true) = true then 1 else 0) + (if bs.any (· == false) = true then 1 else 0)
theorem cntB_snoc (bs : List Bool) (b : Bool) : cntB (bs ++ [b]) = if bs.any (· == b) = true then cntB bs else cntB bs + 1 := by
  unfold cntB
  rw [List.any_append, List.any_append]
  cases b <;> cases bs.any (· == true) <;> cases bs.any (· == false) <;> rfl
theorem cntB_le (bs : List Bool) : cntB bs ≤ 2 := by
  unfold cntB
  split <;> split <;> omega
inductive BoolsAre : List Value → List Bool → Prop
  | nil : BoolsAre [] []
  | cons (b : Bool) {vs : List Value} {bs : List Bool} : BoolsAre vs bs → BoolsAre (.bool b :: vs) (b :: bs)
theorem BoolsAre.at : ∀ {us : List Value} {bs : List Bool}, BoolsAre us bs → ∀ (i : Nat) (v : Value), us[i]? = some v → v = .bool (bs.getD i false) ∧ i < bs.length
  | _, _, .nil, i, v, h => by simp at h
  | _, _, .cons b hr, 0, v, h => by
    simp only [List.getElem?_cons_zero] at h
    cases h
    exact ⟨rfl, by simp⟩
  | _, _, .cons b hr, i + 1, v, h => by
    simp only [List.getElem?_cons_succ] at h
    obtain ⟨e, q⟩ := hr.at i v h
    exact ⟨by rw [e]; rfl, by simp only [List.length_cons]; omega⟩
theorem BoolsAre.len : ∀ {us : List Value} {bs : List Bool}, BoolsAre us bs → us.length = bs.length
  | _, _, .nil => rfl
  | _, _, .cons b hr => by rw [List.length_cons, List.length_cons, hr.len]
section
variable {prog : Program} {w : World} {A : Around} {R : Result → Shared → Prop} {I : Addr} {fp wr : List Addr} {G : Array GenState → Array GenState → Prop} {n : Nat} {P : Nat → Value → Prop} {St : Nat → Shared → Prop}
theorem loopBool (W : WalksS prog w A.in1 I fp wr G n P St) (S : Addr) (hSf : S ∉ fp) (bs : List Bool) (hsz : bs.length = n) (hval : ∀ i v, P i v → v = .bool (bs.getD i false)) :
    ∀ (k i : Nat) (s : Shared), n - i = k → i ≤ n → St i s → s.heap.SetOf (boolK prog w) S (fun b => (bs.take i).any (· == b)) (cntB (bs.take i)) →
      (∀ s', Moved (S :: wr) G s s' → s'.heap.SetOf (boolK prog w) S (fun b => bs.any (· == b)) (cntB bs) → R (.ok (.ret .none)) s') →
      codeAny (model prog w) A (.builtin "set.update.loop" ⟨[.ref S, .ref I], []⟩) R s := by
  have hSw : S ∉ wr := fun h => hSf (W.sub _ h)
  have hsub : ∀ b ∈ wr, b ∈ S :: wr := fun b hb => List.mem_cons_of_mem _ hb
  intro k
  induction k with
  | zero =>
    intro i s hk hi hst hS hR
    have hin : i = n := by omega
    subst hin
    refine codeAny_builtin PyProof.Rows.F.entry_set_update_loop ?_
    rw [Around.under_plainId PyProof.Rows.F.plain_set_update_loop _]
    show wpAny _ A.in1 (pyNext (.ref I) >>= _) _ _ s
    refine wpAny_bind (W.done s _ _ hst fun s' hm => ?_)
    show wpAny _ A.in1 (ret Value.none) _ _ s'
    rw [← hsz, List.take_length] at hS
    exact wpAny_pure (hR s' (hm.mono hsub) (by
      obtain ⟨o, es, ep, t, ho, rest⟩ := hS
      exact ⟨o, es, ep, t, hm.heap S _ hSw ho, rest⟩))
  | succ k ih =>
    intro i s hk hi hst hS hR
    have hlt : i < n := by omega
    refine codeAny_builtin PyProof.Rows.F.entry_set_update_loop ?_
    rw [Around.under_plainId PyProof.Rows.F.plain_set_update_loop _]
    show wpAny _ A.in1 (pyNext (.ref I) >>= _) _ _ s
    refine wpAny_bind (W.item i s _ _ hlt hst fun v s' hP hst' hm => ?_)
    have ev := hval i v hP
    subst ev
    have hS' : s'.heap.SetOf (boolK prog w) S (fun b => (bs.take i).any (· == b)) (cntB (bs.take i)) := by
      obtain ⟨o, es, ep, tb, ho, rest⟩ := hS
      exact ⟨o, es, ep, tb, hm.heap S _ hSw ho, rest⟩
    have hil : i < bs.length := by omega
    have et : bs.take (i + 1) = bs.take i ++ [bs.getD i false] := by
      rw [List.take_add_one, List.getElem?_eq_getElem hil, List.getD, List.getElem?_eq_getElem hil]; rfl
    show wpAny _ A.in1 (holding [Value.bool (bs.getD i false)] (setAdd S (.bool (bs.getD i false))) >>= _) _ _ s'
    refine wpAny_bind (wpAny_holding ?_)
    unfold setAdd
    refine wpAny_holding ?_
    refine wpAny_bind ((boolK prog w).pyHash (boolK_is prog w _) ?_)
    refine wpAny_setAddHashed_of (knd := boolK prog w) (s := { s' with toks := s'.toks + 1 }) (boolK_is prog w _) rfl hS' (by have := cntB_le (bs.take i); unfold scanBound; omega) fun h' hsb hS2 => ?_
    have hSi : h'.SetOf (boolK prog w) S (fun b => (bs.take (i + 1)).any (· == b)) (cntB (bs.take (i + 1))) := by
      refine SetOf_congr hS2 (fun k' => ?_) (by rw [et, cntB_snoc])
      rw [et, List.any_append]
      congr 1
      generalize bs.getD i false = c
      cases c <;> cases k' <;> rfl
    refine wpAny_pure ⟨plainId_quiet PyProof.Rows.F.plain_set_update_loop _, ih (i + 1) _ (by omega) hlt (W.frame _ s' _ _ hst' (Nat.le_succ _) fun b hb o e => ?_) hSi fun s'' hm'' hS'' => ?_⟩
    · rw [hsb.2 b (fun h : b = S => hSf (by rw [← h]; exact hb))]; exact e
    · refine hR s'' (Moved.trans W.gtrans ((hm.mono hsub).then_heap (Nat.le_succ _) fun b o hb e => ?_) hm'') hS''
      rw [hsb.2 b (fun h : b = S => hb (by rw [h]; exact List.mem_cons_self))]; exact e
end
section
variable {prog : Program} {w : World} {A : Around} {E : Value → Shared → Prop} {s : Shared}
theorem call_set_listB {l : Addr} {items : Array Value} {bs : List Bool} {Q : Value → Shared → Prop} (hh : A.handled = none) (hl : s.heap.IsList l items) (hi : BoolsAre items.toList bs)
    (h : ∀ (h' : Heap) (tk : Nat), h'.SetOf (boolK prog w) s.heap.objs.size (fun b => bs.any (· == b)) (cntB bs) → (∀ b o, b < s.heap.objs.size → s.heap.get? b = some o → h'.get? b = some o) → Q (.ref s.heap.objs.size) { s with heap := h', toks := tk }) :
    wpAny (model prog w) A (call (.type "set") [.ref l]) Q E s := by
  obtain ⟨c, tl, hmro⟩ := PySem.F.called_set.mro
  have hmade := PySem.F.called_set.made
  have hsub := PySem.F.called_set.sub
  refine wpAny_call (codeAny_of_tree ?_)
  show wpAny _ _ (callAny (.type "set") _) _ _ _
  refine wpAny_pure ⟨Code.quiet_builtin _ (by decide +kernel), codeAny_builtin PySem.F.entry_type_call ?_⟩
  rw [Around.under_plain (weight_type_call_type "set" [.ref l] []) rfl]
  have h1 := PySem.F.called_set.notType
  have h2 := PySem.F.called_set.canCreate
  have hct := PySem.F.typeCall_set_1 (.ref l)
  repeat (any_goals (first | assumption | wp_step))
  refine codeAny_mono (code_set_new_1 (.ref l) (E := E) (Q₁ := fun obj s₁ => ∃ led : Bool, obj = .ref s.heap.objs.size ∧ s₁ = { s with heap := s.heap.push { cls := .type "set", dict := none, data := .set #[] 0 (.fresh 0 0 led) } }) fun led => ⟨led, rfl, rfl⟩) fun r s₁ hr => ?_
  cases r with
  | error e => exact hr
  | ok fl =>
    cases fl with
    | ret obj =>
      obtain ⟨led, rfl, rfl⟩ := hr
      have hS : (s.heap.push { cls := .type "set", dict := none, data := .set #[] 0 (.fresh 0 0 led) }).get? s.heap.objs.size = some { cls := .type "set", dict := none, data := .set #[] 0 (.fresh 0 0 led) } := Heap.get?_push_size _ rfl
      have hT : Shared.TypeIs { s with heap := s.heap.push { cls := .type "set", dict := none, data := .set #[] 0 (.fresh 0 0 led) } } (.ref s.heap.objs.size) "set" := ⟨_, hS, rfl⟩
      have hli := PySem.F.called_set.init.lookup
      have hbi := PySem.F.called_set.init.bind (.ref s.heap.objs.size)
      repeat (any_goals (first | assumption | wp_step))
      refine codeAny_mono (codeAny_call_builtin (R := wants (fun r s₂ => r = .none ∧ ∃ h' tk, s₂ = { s with heap := h', toks := tk } ∧
          h'.SetOf (boolK prog w) s.heap.objs.size (fun b => bs.any (· == b)) (cntB bs) ∧
          (∀ b o, b < s.heap.objs.size → s.heap.get? b = some o → h'.get? b = some o)) E) PySem.F.called_set.init.plain PySem.F.entry_set_init (check_set_init_1 hT ?_)) fun r₂ s₂ hr₂ => ?_
      · obtain ⟨ol, hol, hcl, nl, hdl⟩ := hl
        obtain ⟨ocls, odict, odata, oslots⟩ := ol
        simp only at hcl hdl
        subst hcl; subst hdl
        have hol' : (s.heap.push { cls := .type "set", dict := none, data := .set #[] 0 (.fresh 0 0 led) }).get? l = some { cls := .type "list", dict := odict, data := .seq items nl, slots := oslots } := Heap.get?_push_of_some _ hol
        have hsls := PySem.F.sub_list_set
        have hslf := PySem.F.sub_list_frozenset
        have hne : (Value.type "list" == Value.type "dict") = false := by decide
        have hl1 : (s.heap.push { cls := .type "set", dict := none, data := .set #[] 0 (.fresh 0 0 led) }).IsList l items := ⟨_, hol', rfl, nl, rfl⟩
        unfold Builtin.«set.__init__» noKeywords Builtin.Frozenset.updateFrom
        generalize hPI : pyIter = PI
        wp_walk
        subst hPI
        refine wpAny_pyIter_list hl1 ?_
        refine wpAny_bind (wpAny_runValue ?_)
        have hlS : l < s.heap.objs.size := Heap.lt_size hol
        have hh3 : A.in1.in1.in1.handled = none := by simp [hh]
        have hneI : l ≠ (s.heap.push { cls := .type "set", dict := none, data := .set #[] 0 (.fresh 0 0 led) }).objs.size := by
          rw [Heap.size_push]; exact Nat.ne_of_lt (Nat.lt_succ_of_lt hlS)
        have hSf : s.heap.objs.size ∉ [(s.heap.push { cls := .type "set", dict := none, data := .set #[] 0 (.fresh 0 0 led) }).objs.size, l] := by
          rw [Heap.size_push]; simp only [List.mem_cons, List.mem_singleton, List.not_mem_nil, or_false, not_or]
          exact ⟨Nat.ne_of_lt (Nat.lt_succ_self _), Nat.ne_of_gt hlS⟩
        have hsz : bs.length = items.size := by rw [← hi.len, Array.length_toList]
        have hval : ∀ (i : Nat) (v : Value), items[i]? = some v → v = .bool (bs.getD i false) := fun i v hv => (hi.at i v (by rw [Array.getElem?_toList]; exact hv)).1
        refine loopBool ((Walks.list hh3 _ l hneI items).toS) s.heap.objs.size hSf bs hsz hval (items.size - 0) 0 _ (by omega) (Nat.zero_le _)
          ⟨⟨_, Heap.get?_push_size _ rfl, rfl, rfl⟩, (hl1.push _)⟩ ?hS0 ?hR
        case hS0 =>
          have hget : ((s.heap.push { cls := .type "set", dict := none, data := .set #[] 0 (.fresh 0 0 led) }).push { cls := .type "list_iterator", data := .fields #[.ref l, .int 0 0] }).get? s.heap.objs.size
              = some { cls := .type "set", dict := none, data := .set #[] 0 (.fresh 0 0 led) } := Heap.get?_push_of_some _ hS
          exact PyProof.Rows.SetOf_congr ((PyProof.Rows.setObjOf_fresh (knd := boolK prog w) led).setOf hget (by unfold scanBound; omega)) (fun _ => rfl) rfl
        case hR =>
          intro s' hm hS'
          obtain ⟨h', g', d', tk', os'⟩ := s'
          have eg : g' = s.gens := hm.gens
          have ed : d' = s.drawn := hm.drawn
          have eo : os' = s.os := hm.os
          subst eg; subst ed; subst eo
          show wpAny _ _ _ _ _ _
          refine wpAny_pure ?_
          show wpAny _ _ (ret Value.none) _ _ _
          refine wpAny_pure ⟨rfl, h', tk', rfl, hS', fun b o hb e => ?_⟩
          have hb1 : b ≠ s.heap.objs.size := Nat.ne_of_lt hb
          have hb2 : b ≠ (s.heap.push { cls := .type "set", dict := none, data := .set #[] 0 (.fresh 0 0 led) }).objs.size := by
            rw [Heap.size_push]; exact Nat.ne_of_lt (Nat.lt_succ_of_lt hb)
          exact hm.heap b o (by simp only [List.mem_cons, List.mem_singleton, List.not_mem_nil, or_false, not_or]; exact ⟨hb1, hb2⟩) (Heap.get?_push_of_some _ (Heap.get?_push_of_some _ e))
      · cases r₂ with
        | error e => exact hr₂
        | ok fl₂ =>
          cases fl₂ with
          | ret r =>
            obtain ⟨rfl, h', tk, rfl, hS', hk'⟩ := hr₂
            repeat (any_goals (first | assumption | wp_step))
            exact h _ _ hS' hk'
          | _ => exact hr₂.elim
    | _ => exact hr.elim
end
theorem boolsAre_of : ∀ {bs : List Bool} {us : List Value}, Vals (bs.map V.bl) us → BoolsAre us bs
  | [], _, .nil => .nil
  | y :: ys, _, .cons r t => by
    cases r
    exact .cons y (boolsAre_of t)
def tLenSetB (K : PySem.W.Frag) (ta : TE) : TE := fun σ H Q => ta σ H fun x H1 => ∃ (l : Addr) (bs : List Bool), x = .ref l ∧ SqL K H1 l (bs.map V.bl) ∧ Q (.int (cntB bs : Nat)) H1
theorem pe_lenSetB {X : Cx} {a : Expr} {ta : TE} {p p2 q pos : PySem.Pos} (hg : Gl X "len") (hm : X.mg "len" = none) (hg2 : Gl X "set") (hm2 : X.mg "set" = none) (ha : PE X a ta) (hc : X.calm = true := by rfl)
    (na : starEach [a] X.env = (false, eval a X.env) :: starEach [] X.env := by rfl) : PE X (.Call (.Name "len" p) [.Call (.Name "set" p2) [a] [] q] [] pos) (tLenSetB X.K ta) := by
  refine ⟨fun pins s σ H Q I h => ?_⟩
  refine Call_ (ld_blt I hg hm boot_len ?_)
  refine PyProof.Rows.callWith_builtin1 (PyProof.Rows.args_cons ?_ rfl) rfl rfl
  refine Call_ (ld_blt I hg2 hm2 boot_set ?_)
  refine PyProof.Rows.callWith_type1 (PyProof.Rows.args_cons (thn (ha.run pins s σ H _ I h) fun v s1 ⟨x, H1, I1, r1, q1⟩ => PyProof.Rows.args_nil ?_) na) na rfl
  obtain ⟨l, bs, rfl, hq, q1⟩ := q1
  cases r1
  obtain ⟨its, r, pl, hz⟩ := I1.list hq
  refine call_set_listB (I1.ok.hd hc) pl.isList (by simpa using boolsAre_of r) fun h' tk hS hk => ?_
  refine PyProof.Rows.args_nil ?_
  obtain ⟨o, es, ep, t, ho, hex, hd, _, _, _, hf, hn⟩ := hS
  have I2 : Inv X pins σ H1 { s1 with heap := h', toks := tk } := I1.kept fun b o e => hk b o (Heap.lt_size e) e
  have := cntB_le bs
  exact call_len_set ho hex hd hf (by rw [hn]; omega) ⟨.int (cntB bs : Nat), H1, I2.tok _, ⟨_, by rw [hn]⟩, q1⟩
end K6
set_option Elab.async false
set_option linter.all false
set_option maxRecDepth 100000
namespace K6
open PySem PySem.Spec PyProof.Rows L2
theorem pa_starK {X : Cx} (K : PySem.W.Frag) (hK : X.K = K) {e : Expr} {es : List Expr} {te : TE} {t : TA} {p : PySem.Pos} (he : PE X e te) (hr : PA X es t) (hs : starEach (.Starred e p :: es) X.env = (true, eval e X.env) :: starEach es X.env := by rfl) : PA X (.Starred e p :: es) (StX.tStar K te t) := by
  subst hK; exact StX.pa_star he hr hs
end K6
set_option Elab.async false
set_option linter.all false
set_option maxRecDepth 100000
namespace K6
open PySem PySem.Spec PyProof.Rows L2
section
variable {X : Cx} (K : PySem.W.Frag) (w : World) (hK : X.K = K) (hw : X.w = w)
include hK hw
theorem pc_ndinK {i o : Expr} {ty td : TE} (hu : X.A.units + 9 < cLine) (hi : PE X i ty) (ho : PE X o td) : PC X .In i o (tNdIn K w false ty td) := by
  subst hK; subst hw; exact pc_ndin hu hi ho
theorem pc_ndnotinK {i o : Expr} {ty td : TE} (hu : X.A.units + 9 < cLine) (hi : PE X i ty) (ho : PE X o td) : PC X .NotIn i o (tNdIn K w true ty td) := by
  subst hK; subst hw; exact pc_ndnotin hu hi ho
end
end K6
set_option Elab.async false
set_option linter.all false
set_option maxRecDepth 100000
set_option maxHeartbeats 1000000
/-! own instances: their truth by __bool__, bool(x), a method of one of two classes -/
namespace K6
open PySem PySem.Spec PyProof.Rows L2
section
variable {X : Cx} {pins : List (Addr × Obj)} {σ : L2.St} {H : Hp} {s : Shared} {a C dx f : Addr} {fs : List (Str × V)} {fd : FuncData} {k : Nat} {sp : Sp}
theorem truthy_inst {A : Around} {E : Value → Shared → Prop} {G : Bool → Hp → Prop} (I : Inv X pins σ H s) (ea : H a = some (.ins C dx fs)) (M : Meth X.K C "__bool__" f) (F : FnOk X.prog X.w X.K X.mg X.base CX0 k f fd ["self"] sp) (B : Binds X.K fd ["self"] [])
    (hr : Room k A) (hE : Env0 X.prog X.w X.K X.mg X.base A X.stack s H) (h : sp [.ref a] H (fun v H2 => ∃ b, v = .bl b ∧ G b H2) E0) :
    wpAny (model X.prog X.w) A (truthy (.ref a)) (fun b s' => ∃ H2, Inv X pins σ H2 s' ∧ G b H2) E s := by
  obtain ⟨mA, O, r, wi, _, ho⟩ := ins_get I.hok ea
  obtain ⟨od, J, _⟩ := O.look
  have hcall : wpAny (model X.prog X.w) A (call (.ref f) [.ref a]) (fun v s' => ∃ b, v = .bool b ∧ ∃ H2, Inv X pins σ H2 s' ∧ G b H2) E s := by
    refine wpAny_call (codeAny_mono (F.run A X.stack s H ⟨[.ref a], []⟩ [.ref a] [.ref a] _ E0 hr hE (B s [.ref a] I.kIn rfl) (.cons rfl .nil) h) fun r s' hq => ?_)
    cases r with
    | error e => exact hq.elim
    | ok fl =>
      cases fl with
      | ret u =>
        obtain ⟨v, H2, I2, rv, b, rfl, g⟩ := I.after hq
        cases rv
        exact ⟨b, rfl, H2, I2, g⟩
      | next => exact False.elim hq
      | brk => exact False.elim hq
      | cont => exact False.elim hq
  have hsp : ∀ {Q : Option Value → Shared → Prop}, (∀ b s' H2, Inv X pins σ H2 s' → G b H2 → Q (some (.bool b)) s') → wpAny (model X.prog X.w) A (callSpecial? (.ref a) "__bool__") Q E s := fun {Q} q => by
    unfold callSpecial? specialOf
    refine wpAny_bind (wpAny_bind (J.type.here ((PySem.W.looks_findIn I.kIn M.at_).here ?_)))
    refine wpAny_holding ?_
    refine wpAny_bind ((PySem.W.bind_fn I.kIn (.ref a) (beq_iff_eq.mp M.fn)).here ?_)
    exact wpAny_bind (wpAny_mono hcall (fun v s' ⟨b, e, H2, I2, g⟩ => by subst e; exact wpAny_pure (q b s' H2 I2 g)) fun _ _ z => z)
  unfold truthy
  first
    | exact wpAny_bind (hsp fun b s' H2 I2 g => wpAny_pure ⟨H2, I2, g⟩)
    | exact wpAny_bind (wpAny_pure (wpAny_bind (hsp fun b s' H2 I2 g => wpAny_pure ⟨H2, I2, g⟩)))
end
end K6
set_option Elab.async false
set_option linter.all false
set_option maxRecDepth 100000
set_option maxHeartbeats 2000000
/-! in an except suite: lists walked to their end, list comprehensions over a list, any(xs); exceptions whose context is None -/
namespace K6
open PySem PySem.Spec PyProof.Rows L2 HotX L2H
section
variable {prog : Program} {w : World} {A : Around} {E : Value → Shared → Prop} {s : Shared}
theorem hot_update {x1 it : Addr} {h : Heap} {f : Obj → Obj} (hot : HotAt A x1 h) (hne : x1 ≠ it) : HotAt A x1 (h.update it f) := by
  obtain ⟨hh, o, vs, e, d, c⟩ := hot
  exact ⟨hh, o, vs, by rw [Heap.get?_update_other _ _ (Ne.symm hne)]; exact e, d, c⟩
theorem pyNext_list_end_hot {it l x1 : Addr} {i : Nat} {items : Array Value} {Q : Option Value → Shared → Prop} (hot : HotAt A x1 s.heap) (hne : x1 ≠ it) (hit : s.heap.IsListIter it l i) (hl : s.heap.IsList l items) (hx : items[i]? = none)
    (hQ : ∀ h', Heap.ExtBut it s.heap h' → Q none { s with heap := h' }) : wpAny (model prog w) A (pyNext (.ref it)) Q E s := by
  obtain ⟨o, ho, hc, hd⟩ := id hit
  obtain ⟨ol, hol, _, nl, hdl⟩ := hl
  unfold pyNext
  refine wpAny_bind (wpAny_attempt (wpAny_callSpecial?_slot (name := Str.ofString "__next__") hit.typeIs slot_listiter_next
    (wpAny_call_entry slot_listiter_next hit.typeIs entry_listiter_next ?_ (args_listiter_next _))))
  show wpAny _ _ (field (.ref it) 0 >>= _) _ _ s
  refine wpAny_bind (wpAny_field ho hd (x := .ref l) rfl ?_)
  show wpAny _ _ (if (Value.ref l == Value.none) = true then _ else _) _ _ s
  rw [if_neg (show ¬ ((Value.ref l == Value.none) = true) from Bool.false_ne_true)]
  show wpAny _ _ (field (.ref it) 1 >>= _) _ _ s
  refine wpAny_bind (wpAny_field ho hd (x := .int i 0) rfl ?_)
  show wpAny _ _ (seqItems? (.ref l) >>= _) _ _ s
  refine wpAny_bind (wpAny_seqItems hol hdl ?_)
  simp only [Int.toNat_natCast, hx]
  refine wpAny_bind (wpAny_rule (wpAny_bind (wpAny_setField ho hd (by simp) ?_)))
  have hot2 := hot_update (f := Obj.mapFields (·.setIfInBounds 0 Value.none)) hot hne
  show wpAny _ _ (newExc (.type "StopIteration") [] >>= _) _ _ _
  refine wpAny_bind ?_
  simp only [newExc, newTuple]
  refine wpAny_bind (wpAny_newObj_type ?_ (by size_fits))
  refine wpAny_bind (m := firstArgMember _ _) (wpAny_of_eq (a := Value.none) (by first | rfl | (simp only [firstArgMember]; rfl)) ?_)
  refine wpAny_newObj_type ?_ (by size_fits)
  obtain ⟨hh, o1, vs1, h1, d1, c1⟩ := hot2
  refine raiseNew_hot ⟨hh, o1, vs1, Heap.get?_push_of_some _ (Heap.get?_push_of_some _ h1), d1, c1⟩ (Nat.ne_of_lt (Heap.lt_size (Heap.get?_push_of_some _ h1))) (Heap.get?_push_size _ rfl) rfl (by first | (simp; done) | (simp; omega) | (simp only [Array.size_append]; simp; omega)) ?_
  refine wpAny_bind (wpAny_isInstance (T := "StopIteration") (b := true) ⟨_, Heap.get?_update_self _ (Heap.get?_push_size _ rfl) rfl, rfl⟩ isSubtype_stop ?_)
  refine wpAny_pure (hQ _ ?_)
  intro b o' hb e
  have e1 : (s.heap.update it (Obj.mapFields (·.setIfInBounds 0 Value.none))).get? b = some o' := by rw [Heap.get?_update_other _ _ (Ne.symm hb)]; exact e
  have e2 := Heap.get?_push_of_some (h := (s.heap.update it (Obj.mapFields (·.setIfInBounds 0 Value.none)))) { cls := Value.type "tuple", data := Data.seq #[] } e1
  rw [Heap.get?_update_other _ _ (Ne.symm (Nat.ne_of_lt (Heap.lt_size e2)))]
  exact Heap.get?_push_of_some _ e2
end
theorem walks_listH {prog : Program} {w : World} {A : Around} (I ax x1 : Addr) (hne : ax ≠ I) (hx1 : x1 ≠ I) (items : Array Value) :
    Walks prog w A I [I, ax, x1] [I] items.size (fun i v => items[i]? = some v) (fun i h => h.IsListIter I ax i ∧ h.IsList ax items ∧ HotAt A x1 h) where
  sub := fun b hb => by simp at hb; simp [hb]
  frame := fun _ _ _ st hk => ⟨st.1.at fun o e => hk I (by simp) o e, st.2.1.at fun o e => hk ax (by simp) o e, by
    obtain ⟨hh, o, vs, e, d, c⟩ := st.2.2
    exact ⟨hh, o, vs, hk x1 (by simp) o e, d, c⟩⟩
  item := fun i s Q E hi st hQ => by
    refine wpAny_pyNext_list_item st.1 st.2.1 (x := items[i]) (by simp [hi]) fun h' hit' hs' => ?_
    refine hQ _ h' s.toks (by simp [hi]) ⟨hit', st.2.1.extBut hs'.extBut hne, ?_⟩ fun b o hb e => hs'.extBut b o (fun h => hb (by simp [h])) e
    obtain ⟨hh, o, vs, e, d, c⟩ := st.2.2
    exact ⟨hh, o, vs, hs'.extBut _ _ hx1 e, d, c⟩
  done := fun s Q E st hQ => pyNext_list_end_hot st.2.2 hx1 st.1 st.2.1 (by simp) fun h' he' => hQ h' s.toks fun b o hb e => he' b o (fun h => hb (by simp [h])) e
  self := fun _ _ _ _ st hQ => wpAny_pyIter_listiter st.1 hQ
theorem cr_anyH {X : Cx} (hc : HotC X) : CallR X (.builtin "any") (rAny X.K) := by
  intro pins s σ H vs us Q I r h
  obtain ⟨a, bs, rfl, hs, q⟩ := h
  obtain ⟨x1, hot⟩ := hc.at I
  obtain ⟨its, rv, hl, _⟩ := I.list hs
  rw [Vals.ref1 r]
  have hb := rv.bls
  have hx1 : x1 ≠ s.heap.objs.size := by
    obtain ⟨_, o, vs, e, _⟩ := hot
    exact Nat.ne_of_lt (Heap.lt_size e)
  refine call_any_walk (iter_any hl.isList fun s₂ e2 st hne => ?_)
  subst e2
  have hot2 : HotAt X.A.in1 x1 (s.heap.push { cls := .type "list_iterator", data := .fields #[.ref a, .int 0 0] }) := by
    obtain ⟨hh, o, vs, e, d, c⟩ := hot
    exact ⟨hh, o, vs, Heap.get?_push_of_some _ e, d, c⟩
  refine ⟨_, _, _, _, _, _, _, rfl, walks_listH (A := X.A.in1) _ a x1 hne hx1 its.toArray, ⟨st.1, st.2, hot2⟩, truth_bools hb, fun h' tk hk => ?_⟩
  refine ⟨.bl _, H, I.kept fun b o eo => hk b o (fun hmem => ?_) (Heap.get?_push_of_some _ eo), ?_, q⟩
  · rcases List.mem_cons.mp hmem with e1 | hmem
    · exact absurd (e1 ▸ Heap.lt_size eo) (Nat.lt_irrefl _)
    · cases hmem
  · show Value.bool _ = Value.bool _
    rw [← L2.any_range, hb, List.size_toArray, List.length_map]
/-! ### a list comprehension over a list -/
/-- the turns over a list, done where the handled exception stands -/
structure TurnL (P : Program) (w : World) (K : PySem.W.Frag) (tg : Expr) (a it : Addr) : Prop where
  item : ∀ (X : Cx), X.prog = P → X.w = w → X.K = K → ∀ (i : Nat) (pins : List (Addr × Obj)) (s : Shared) (σ : L2.St) (H : Hp) (E : Value → Shared → Prop), Inv X pins σ H s → (∀ b ∈ [it], FpOk X pins H b) → s.heap.IsListIter it a i → (Itl K a).go i H →
    wpAny (model P w) X.A (pyNext (.ref it)) (fun r s1 => ∃ u, r = some u ∧
      wpAny (model P w) X.A (letOwnedTupleGo tg (.ref it) u) (fun _ s2 => ∃ x H', Inv X pins σ H' s2 ∧ RelV x u ∧ (Itl K a).yld i H x H' ∧ s2.heap.IsListIter it a (i + 1) ∧ ∀ b ∈ [it], H' b = none) E s1) E s
  done : ∀ (X : Cx), X.prog = P → X.w = w → X.K = K → ∀ (x1 : Addr) (i : Nat) (pins : List (Addr × Obj)) (s : Shared) (σ : L2.St) (H : Hp) (E : Value → Shared → Prop), HotAt X.A x1 s.heap → x1 ≠ it → Inv X pins σ H s → (∀ b ∈ [it], FpOk X pins H b) → s.heap.IsListIter it a i → (Itl K a).stop i H →
    wpAny (model P w) X.A (pyNext (.ref it)) (fun r s1 => r = none ∧ Inv X pins σ H s1) E s
theorem turn_listL {P : Program} {w : World} {K : PySem.W.Frag} {tg : Expr} (a it : Addr) : TurnL P w K tg a it where
  item := by
    intro X hP hw hK i pins s σ H E I hf st hg
    subst hP hw hK
    obtain ⟨xs, x, hq, hx⟩ := hg
    obtain ⟨its, rv, p, hz⟩ := I.list hq
    obtain ⟨u, hu, ru⟩ := rv.get hx
    obtain ⟨f0, f1, f2, f3, f4, f5⟩ := hf it (by simp)
    refine wpAny_pyNext_list_item st p.isList (x := u) (by simpa using hu) fun h' st' sb => ?_
    have I1 : Inv X pins σ H { s with heap := h' } := I.turned (t' := s.toks) (fun b o hb e => (sb.2 b hb).trans e) f0 f1 f3 f4 f5
    obtain ⟨o, e, c, d⟩ := id st'
    exact ⟨u, rfl, go_of (s := { s with heap := h' }) e c d (by decide) ⟨x, H, I1, ru, ⟨rfl, fun ys hy => by rw [I.list_inj hy hq]; exact hx⟩, st', fun b hb => (hf b hb).1⟩⟩
  done := by
    intro X hP hw hK x1 i pins s σ H E hot hne I hf st hg
    subst hP hw hK
    obtain ⟨xs, hq, hx⟩ := hg
    obtain ⟨its, rv, p, hz⟩ := I.list hq
    obtain ⟨f0, f1, f2, f3, f4, f5⟩ := hf it (by simp)
    have hl := rv.length
    exact pyNext_list_end_hot hot hne st p.isList (by simp; omega) fun h' eb => ⟨rfl, I.turned (t' := s.toks) (fun b o hb e => eb b o hb e) f0 f1 f3 f4 f5⟩
theorem hot_keep {A : Around} {x1 : Addr} {h h' : Heap} (hot : HotAt A x1 h) (k : ∀ b o, h.get? b = some o → h'.get? b = some o) : HotAt A x1 h' := by
  obtain ⟨hh, o, vs, e, d, c⟩ := hot
  exact ⟨hh, o, vs, k _ _ e, d, c⟩
section
variable {X : Cx}
theorem lc_coreL {pins : List (Addr × Obj)} {s : Shared} {σ : L2.St} {H : Hp} {Q : VK} {elt tg iter : Expr} {ifs : List Expr} {scope : Scope} {own : List (Str × Nat)} {pos pos' : PySem.Pos} {tl : TE} {g : TG} {tt : TT} {te : TE} {use : Option (Value → Sem Unit)} {Qf : Value → Shared → Prop}
    (hc : HotC X) (hN : X.N.Nodup) (I : Inv X pins σ H s) (hl : PE X iter tl) (ok : BlkOk X.N X.env.scope scope own)
    (hg : ∀ (s : Shared) (H : Hp) (C : Addr) (cl : List (Str × Addr)) (fp : List Addr), PG (X.blk s H scope (compEnvC scope cl C X.env) fp) tg g) (ht : ∀ (s : Shared) (H : Hp) (C : Addr) (cl : List (Str × Addr)) (fp : List Addr), PTs (X.blk s H scope (compEnvC scope cl C X.env) fp) ifs tt)
    (he : ∀ (s : Shared) (H : Hp) (C : Addr) (cl : List (Str × Addr)) (fp : List Addr), PE (X.blk s H scope (compEnvC scope cl C X.env) fp) elt te) (hs : ∀ x, foldedSetIterable iter X.env x = pure x)
    (h : tLc (iList X.K tl) g tt te (own.map (·.2)) σ H Q)
    (hRR : ∀ D C s' m H', Inv X pins σ H' s' → Q (.ref D) H' → s'.heap.Ns C m → FpOk X pins H' C → compPost (model X.prog X.w) X.A X.xe use Qf (.ref D) C (.ok .next) s') :
    wpAny (model X.prog X.w) X.A (comprehension (.ListComp elt [⟨tg, iter, ifs, 0⟩] scope pos) scope X.env pos' (newList []) false (eval iter X.env) use) Qf X.xe s := by
  have hfree : ∀ y ∈ scope.names, y.2 = .free → ∃ c, X.env.cells.lookup y.1 = some c := fun y hy e => by
    rcases ok.free y hy e with k | k
    · exact I.ok.has _ (.inl k)
    · exact I.ok.has _ (.inr k)
  refine wpAny_comprehension_free (use := use) rfl hs (closure_ok hfree) ok.kind (fun y hy e => by rw [ok.uniq y hy, e])
    (thn (hl.run pins s σ H _ I h) fun xv s1 hx => ?_)
  obtain ⟨x0, H1, I1, r1, a, e, ⟨xs0, hq0⟩, q⟩ := hx
  subst e
  cases r1
  obtain ⟨its0, rv0, pl0, hz0⟩ := I1.list hq0
  refine wpAny_pyIter_list pl0.isList ?_
  generalize hit : s1.heap.objs.size = it
  generalize hs2 : ({ s1 with heap := s1.heap.push { cls := .type "list_iterator", data := .fields #[.ref a, .int 0 0] } } : Shared) = s2
  have I2 : Inv X pins σ H1 s2 := by rw [← hs2]; exact I1.kept (t' := s1.toks) fun b o e => Heap.get?_push_of_some _ e
  have st2 : s2.heap.IsListIter it a 0 := by rw [← hs2, ← hit]; exact ⟨_, Heap.get?_push_size _ rfl, rfl, rfl⟩
  have f2 : ∀ b ∈ [it], FpOk X pins H1 b := fun b hb => by
    have e : b = s1.heap.objs.size := by rw [hit]; simpa using hb
    subst e
    exact I1.fpOk (Nat.le_refl _) (I1.hok.fresh (Nat.le_refl _))
  have T : TurnL X.prog X.w X.K tg a it := turn_listL a it
  have obj : ∀ (i : Nat) (h : Heap), h.IsListIter it a i → ∀ b ∈ [it], ∃ o, h.get? b = some o ∧ ∀ v, o.data ≠ .cell v := fun i h st b hb => by
    have e : b = it := by simpa using hb
    subst e
    obtain ⟨o, e, c, d⟩ := st
    exact ⟨o, e, fun v z => by rw [d] at z; cases z⟩
  have keep : ∀ (i : Nat) (h h' : Heap), h.IsListIter it a i → (∀ b ∈ [it], ∀ o, h.get? b = some o → h'.get? b = some o) → h'.IsListIter it a i := fun i h h' st k => st.at fun o e => k it (by simp) o e
  show wpAny _ _ _ _ _ s2
  refine wpAny_newObj_type (newEnv_comp ?_) (by show 0 ≤ sizeLine; decide)
  generalize hD : s2.heap.objs.size = D
  have hDn : H1 D = none := I2.hok.fresh (Nat.le_of_eq hD)
  obtain ⟨W, ⟨m0, w0⟩, turn⟩ := q D hDn
  generalize hs3 : ({ s2 with heap := s2.heap.push { cls := .type "list", data := .seq ([] : List Value).toArray } } : Shared) = s3
  have I3 : Inv X pins σ (upd H1 D (.lst [])) s3 := by
    rw [← hs3]
    refine I2.laid (t' := s2.toks) (fun b o e => Heap.get?_push_of_some _ e) (Nat.le_of_eq hD) ⟨Nat.zero_le _, [], 0, .nil, ?_⟩
    rw [← hD]
    exact Heap.get?_push_size _ rfl
  have h3 : s3.heap = s2.heap.push { cls := .type "list", data := .seq ([] : List Value).toArray } := by rw [← hs3]
  have sz : ∀ b ∈ [it], b < s2.heap.objs.size := fun b hb => by
    obtain ⟨o, e, _⟩ := obj _ _ st2 b hb
    exact Heap.lt_size e
  have f3 : ∀ b ∈ [it], FpOk X pins (upd H1 D (.lst [])) b ∧ b < s3.heap.objs.size := fun b hb => by
    have hlt := sz b hb
    refine ⟨⟨?_, (f2 b hb).2⟩, by rw [h3, Heap.size_push]; exact Nat.lt_succ_of_lt hlt⟩
    rw [upd_ne (by rw [← hD]; exact Nat.ne_of_lt hlt)]
    exact (f2 b hb).1
  have st3 : s3.heap.IsListIter it a 0 := keep _ _ _ st2 fun b _ o e => by rw [h3]; exact Heap.get?_push_of_some _ e
  -- the exception that is handled stays
  obtain ⟨px, ⟨hh, vx, dx, cx⟩, hpx⟩ := hc
  have hpin3 := I3.pin px (List.mem_append_left _ hpx)
  have hpit : px.1 ≠ it := (f3 it (by simp)).1.2.2.2.2.2 px (List.mem_append_left _ hpx)
  have hpst : px.1 ∉ frs X.stack := fun hm => by
    rcases List.mem_cons.mp (I3.stkSub px.1 hm) with z | z
    · exact hpin3.2.2.1 z
    · exact hpin3.2.2.2.1 z
  have I4 := block_start I3 ok hN f3
  have pg := hg s3 (upd H1 D (.lst [])) s3.heap.objs.size (cellsFrom (s3.heap.objs.size + 1) scope.names (cloFrom X.env.cells scope.names [])) [it]
  have pt := ht s3 (upd H1 D (.lst [])) s3.heap.objs.size (cellsFrom (s3.heap.objs.size + 1) scope.names (cloFrom X.env.cells scope.names [])) [it]
  have pe := he s3 (upd H1 D (.lst [])) s3.heap.objs.size (cellsFrom (s3.heap.objs.size + 1) scope.names (cloFrom X.env.cells scope.names [])) [it]
  show codeAny _ _ (.compStart (.ListComp elt [⟨tg, iter, ifs, 0⟩] scope pos) 0 (.ref it) (.ref D) (compEnvC scope (cellsFrom (s3.heap.objs.size + 1) scope.names (cloFrom X.env.cells scope.names [])) s3.heap.objs.size X.env)) (compPost (model X.prog X.w) X.A X.xe use Qf (.ref D) s3.heap.objs.size) { s3 with heap := pushCells (s3.heap.push { cls := .type "dict", data := .dict #[] }) scope.names }
  have nfp : ∀ b ∈ [it], (upd H1 D (.lst [])) b = none := fun b hb => (f3 b hb).1.1
  generalize hce : compEnvC scope (cellsFrom (s3.heap.objs.size + 1) scope.names (cloFrom X.env.cells scope.names [])) s3.heap.objs.size X.env = ce at I4 pg pt pe ⊢
  have cL : ce.locals = s3.heap.objs.size := by subst hce; rfl
  generalize hH3 : upd H1 D (.lst []) = H3 at I3 I4 pg pt pe w0 nfp f3 hpin3
  generalize hs4 : ({ s3 with heap := pushCells (s3.heap.push { cls := .type "dict", data := .dict #[] }) scope.names } : Shared) = s4 at I4 ⊢
  have st4 : s4.heap.IsListIter it a 0 := keep _ _ _ st3 fun b _ o e => by rw [← hs4]; exact pushCells_keeps _ _ _ _ (Heap.get?_push_of_some _ e)
  have stat : ∀ {σ' : L2.St} {H' : Hp} {s' : Shared}, Inv (X.blk s3 H3 scope ce [it]) [] σ' H' s' → (∀ b ∈ [it], H' b = none) → ∀ b ∈ [it], FpOk (X.blk s3 H3 scope ce [it]) [] H' b := fun {σ' H' s'} I' hn b hb =>
    ⟨hn b hb, (I'.ok.exf b hb).1, I'.ok.exfs b hb, .inl hb, fun x c e => (I'.ok.exf b hb).2 x c e, fun p hp => absurd (show p ∈ ([] : List (Addr × Obj)) ++ [] from hp) (by simp)⟩
  have hotB : ∀ {σ' : L2.St} {H' : Hp} {s' : Shared}, Inv (X.blk s3 H3 scope ce [it]) [] σ' H' s' → HotAt X.A px.1 s'.heap := fun {σ' H' s'} I' =>
    ⟨hh, px.2, vx, I'.base.keep px.1 px.2 hpin3.1 hpin3.2.1 hpst (by simpa using hpit), dx, cx⟩
  have loop : codeAny (model X.prog X.w) X.A (.compLoop (.ListComp elt [⟨tg, iter, ifs, 0⟩] scope pos) 0 (.ref it) (.ref D) ce) (compPost (model X.prog X.w) X.A X.xe use Qf (.ref D) s3.heap.objs.size) s4 := by
    refine compLoop_any (fun n s' => ∃ i H', Inv (X.blk s3 H3 scope ce [it]) [] (wipe σ (own.map (·.2))) H' s' ∧ s'.heap.IsListIter it a i ∧ (∀ b ∈ [it], H' b = none) ∧ W i n H') ?_ m0 ⟨0, H3, I4, st4, nfp, w0⟩
    rintro n s5 ⟨i, H5, I5, st5, n5, w5⟩
    rcases turn i n H5 w5 with ⟨stop, qq⟩ | ⟨go, Nx, hNx, step⟩
    · have td := T.done (X.blk s3 H3 scope ce [it]) rfl rfl rfl px.1 i [] s5 _ H5 (fun _ _ => False) (hotB I5) hpit I5 (stat I5 n5) st5 stop
      refine thnF td fun r s6 ⟨hr, I6⟩ => ?_
      subst hr
      have I7 : Inv X pins σ H5 s6 := I3.call' (ch := [it]) I6.os I6.base I6.hok I6.bare fun b hb => ⟨(f3 b hb).1.2.2.2.1, (f3 b hb).1.2.1, (f3 b hb).1.2.2.2.2.1, (f3 b hb).1.2.2.2.2.2⟩
      have nC : H5 s3.heap.objs.size = none := by
        have z : H5 ce.locals = none := I6.free
        rw [cL] at z
        exact z
      obtain ⟨m, hn, _⟩ := I6.loc
      have hn : s6.heap.Ns ce.locals m := hn
      rw [cL] at hn
      exact hRR D s3.heap.objs.size s6 m H5 I7 qq hn (I3.fpOk (Nat.le_refl _) nC)
    · have ti := T.item (X.blk s3 H3 scope ce [it]) rfl rfl rfl i [] s5 _ H5 (fun _ _ => False) I5 (stat I5 n5) st5 go
      refine thnF ti fun r s6 ⟨u, hr, h6⟩ => ?_
      subst hr
      refine thnF h6 fun _ s7 ⟨x, H7, I7, r7, y7, st7, n7⟩ => ?_
      have I7' := I7.pinned (stat I7 n7) (obj _ _ st7)
      refine thnF (pg.run _ s7 _ H7 x u _ I7' r7 (step x H7 y7)) fun _ s8 ⟨σ8, H8, I8, hw8, q8⟩ => ?_
      refine thnF (pt.run _ s8 σ8 H8 _ I8 q8) fun b s9 ⟨H9, I9, q9⟩ => ?_
      have fin : ∀ {s' : Shared} {H' : Hp}, Inv (X.blk s3 H3 scope ce [it]) ([] ++ pinsAt [it] s7.heap) σ8 H' s' → Nx H' → ∃ m, m < n ∧ ∃ i H', Inv (X.blk s3 H3 scope ce [it]) [] (wipe σ (own.map (·.2))) H' s' ∧ s'.heap.IsListIter it a i ∧ (∀ b ∈ [it], H' b = none) ∧ W i m H' := fun {s' H'} I' nx => by
        obtain ⟨m', hm, w'⟩ := hNx H' nx
        have pin' : ∀ b ∈ [it], ∀ o, s7.heap.get? b = some o → s'.heap.get? b = some o ∧ H' b = none := fun b hb o e =>
          let z := I'.pin (b, o) (List.mem_append_right _ (List.mem_append_right _ (mem_pinsAt hb e)))
          ⟨z.1, z.2.1⟩
        have hl : (wipe σ (own.map (·.2))).length = σ8.length := by rw [← hw8, wipe_length]
        refine ⟨m', hm, i + 1, H', (I'.unpinned (pins := [])).weak hl (fun j v e => ?_), keep _ _ _ st7 fun b hb o e => (pin' b hb o e).1, fun b hb => ?_, w'⟩
        · rw [← hw8] at e
          exact (wipe_some e).1
        · obtain ⟨o, e, _⟩ := obj _ _ st7 b hb
          exact (pin' b hb o e).2
      cases b with
      | false =>
        simp only [Bool.false_eq_true, if_false] at q9 ⊢
        exact fin I9 q9
      | true =>
        simp only [if_true] at q9 ⊢
        refine thnF (pe.run _ s9 σ8 H9 _ I9 q9) fun z s10 ⟨yv, H10, I10, r10, acc, hD10, hz10, nx⟩ => ?_
        exact app_ok (X := X.blk s3 H3 scope ce [it]) I10 hD10 hz10 r10 fun s11 I11 => fin I11 nx
  exact codeAny_compStart_list loop (wpAny_pyIter_listiter st4 loop)
theorem pe_lcL {elt tg iter : Expr} {ifs : List Expr} {scope : Scope} {own : List (Str × Nat)} {pos : PySem.Pos} {tl : TE} {g : TG} {tt : TT} {te : TE} (hc : HotC X) (hN : X.N.Nodup) (hl : PE X iter tl) (ok : BlkOk X.N X.env.scope scope own)
    (hg : ∀ (s : Shared) (H : Hp) (C : Addr) (cl : List (Str × Addr)) (fp : List Addr), PG (X.blk s H scope (compEnvC scope cl C X.env) fp) tg g) (ht : ∀ (s : Shared) (H : Hp) (C : Addr) (cl : List (Str × Addr)) (fp : List Addr), PTs (X.blk s H scope (compEnvC scope cl C X.env) fp) ifs tt)
    (he : ∀ (s : Shared) (H : Hp) (C : Addr) (cl : List (Str × Addr)) (fp : List Addr), PE (X.blk s H scope (compEnvC scope cl C X.env) fp) elt te) (hs : ∀ x, foldedSetIterable iter X.env x = pure x := by intro _; rfl) :
    PE X (.ListComp elt [⟨tg, iter, ifs, 0⟩] scope pos) (tLc (iList X.K tl) g tt te (own.map (·.2))) := by
  refine ⟨fun pins s σ H Q I h => ?_⟩
  rw [eval_ListComp]
  refine lc_coreL hc hN I hl ok hg ht he hs h fun D C s' m H' I' q hn f => ⟨m, hn, fun h'' sb => ?_⟩
  obtain ⟨f0, f1, f2, f3, f4, f5⟩ := f
  exact ⟨.ref D, H', I'.turned (t' := s'.toks) (fun b o hb e => (sb.2 b hb).trans e) f0 f1 f3 f4 f5, rfl, q⟩
end
end K6
set_option Elab.async false
set_option linter.all false
set_option maxRecDepth 100000
set_option maxHeartbeats 2000000
/-! exceptions whose context is None: a def that lets them out, a made one -/
namespace K6
open PySem PySem.Spec PyProof.Rows L2
section
variable {P : Program} {w : World} {K : PySem.W.Frag} {mg : Str → Option Value} {base : Heap}
theorem Fn.okN {x qual : Str} {st : Stmt} {f : Addr} {fd : FuncData} {N ps : List Str} {k : Nat} {sp : Sp} (F : Fn K x qual st f fd) (S : FnScope N ps (defScope st)) (len : ∀ vs H Q E, sp vs H Q E → vs.length = ps.length)
    (hbody : ∀ (cdv : Value) (A : Around) (outer : List Env) (s : Shared) (H : Hp) (vs : List V) (Q : VK) (E : XK), Room k (A.deeper (envOfC qual (defScope st) s.heap.objs.size f cdv)) → sp vs H Q E →
      ∃ t, PSs (cxOf (L2N.CX P w) P w K mg base N qual (defScope st) f cdv A outer s H E) (defBody st) t ∧ t { nx := fun _ H' => Q .non H', rt := Q } (start N vs) H) : FnOk P w K mg base (L2N.CX P w) (k + 1) f fd ps sp := by
  obtain ⟨oc, od, dV, kV, doc, pm, an, cdv, ct, osl, rfl, lk, hcd⟩ := F.ex
  exact fn_of lk hcd S len fun A outer s H vs Q E hr hsp => hbody cdv A outer s H vs Q E hr hsp
end
section
variable {X : Cx} {e : Expr} {es : List Expr} {ta : TA} {p pos : PySem.Pos}
theorem mk_endN {pins : List (Addr × Obj)} {σ : L2.St} {H1 H2 : Hp} {Q : XK} {hp hp2 h2 : Heap} {g1 g2 : Array GenState} {d1 d2 : Drawn} {t1 t2 : Nat} {os1 os2 : OsState} {a C d : Addr} {fs : List (Str × V)} (T : Raises X (.ref C)) (I1 : Inv X pins σ H1 ⟨hp, g1, d1, t1, os1⟩)
    (ha : hp.objs.size ≤ a) (k : ∀ b o, hp.get? b = some o → hp2.get? b = some o) (un : Un (frs X.stack) [] (upd H1 a (exo a C none)) H2 hp2 h2) (hok : HOk X.prog X.w H2 h2) (ho : os2 = os1) (hb : AllBare g2)
    (ea : H2 a = some (exo a C (some d))) (ed : H2 d = some (exd d fs)) (hd1 : H1 d = none) (q : Q (.ref C) (some d) (upd (L2.del H2 a) d (.xd fs))) : L2N.MkP X pins σ Q (.ref a) ⟨h2, g2, d2, t2, os2⟩ := by
  obtain ⟨t0, G, J, kG, ge, hoe, na⟩ := mk_end0 (d2 := d2) (t2 := t2) I1 ha k un hok ho hb ea ed hd1
  exact ⟨a, _, _, ⟨G, g2, d2, t2, os2⟩, _, .ref C, some d, rfl, J, kG, ge, hoe, ⟨rfl, rfl, fun vs e => by cases e; rfl⟩, rfl, rfl, na, rfl, hb, T, q⟩
theorem pmk_oexN {CX : CXT} {x : Str} {C fI : Addr} {k : Nat} {fd : FuncData} {ps : List Str} {sp : Sp} {ds : List Value} {dvs : List V} (T : OexC X.K C) (iC : PySem.W.findIn X.K (.ref C) "__init__" = some (some (.ref fI))) (tI : PySem.W.typeIn X.K (.ref fI) = some (.type "function"))
    (F1 : FnOk X.prog X.w X.K X.mg X.base CX k fI fd ps sp) (hr : Room (k + 1) X.A) (hb : Binds X.K fd ps ds) (hd : Vals dvs ds) (hx : Passes CX X (fun _ _ _ => False)) (hg : Gl X x) (hm : X.mg x = some (.ref C)) (ha : PA X (e :: es) ta)
    (hdb : (x == ("__debug__" : Str)) = false := by decide) (he : starEach (e :: es) X.env = (false, eval e X.env) :: starEach es X.env := by rfl) (hpl : (backTo pos (starEach es X.env)).any (·.1) = false := by rfl) :
    L2N.PMk X (.Call (.Name x p) (e :: es) [] pos) (tMkO C sp dvs ta) := by
  intro pins s σ H Q I h
  obtain ⟨nm, q, N, bs, bm, sn, sub, ab, col, dd, k0, k1, k2, k3, k5, hC, hbm⟩ := T.cls
  refine wpAny_Call_Name_kw (ld_glob I hg hm ?_ hdb)
  refine PySem.W.callWith_K (h₀ := X.base) I.ok.mod.kin T.kC (thn (ha.run pos pins s σ H _ I h) fun us s1 ⟨vs, H1, I1, r1, hz, q1⟩ => ⟨I1.kIn, ?_⟩) he hpl
  show wpAny _ _ (call (.ref C) us) _ _ _
  obtain ⟨hp, g, dr, tk, os⟩ := s1
  have hsz : hp.objs.size ≤ hp.objs.size + 1 := Nat.le_succ _
  have hn : H1 (hp.objs.size + 1) = none := I1.hok.fresh hsz
  have hq := q1 (hp.objs.size + 1) hn
  have kk : ∀ b o, hp.get? b = some o → ((hp.push (PySem.W.kdv_tup us)).push (PySem.HandSPX.excO C hp.objs.size)).get? b = some o := fun b o e => Heap.get?_push_of_some _ (Heap.get?_push_of_some _ e)
  have hget : ((hp.push (PySem.W.kdv_tup us)).push (PySem.HandSPX.excO C hp.objs.size)).get? (hp.objs.size + 1) = some (PySem.HandSPX.excO C hp.objs.size) := by heap_get
  have I2 : Inv X pins σ (upd H1 (hp.objs.size + 1) (exo (hp.objs.size + 1) C none)) ⟨(hp.push (PySem.W.kdv_tup us)).push (PySem.HandSPX.excO C hp.objs.size), g, dr, tk, os⟩ :=
    I1.laid (t' := tk) (a := hp.objs.size + 1) (o := exo (hp.objs.size + 1) C none) (h' := (hp.push (PySem.W.kdv_tup us)).push (PySem.HandSPX.excO C hp.objs.size)) kk hsz (exo_ok hget)
  have r2 : Vals (V.ref (hp.objs.size + 1) :: (vs ++ dvs)) (Value.ref (hp.objs.size + 1) :: (us ++ ds)) := .cons rfl (r1.append hd)
  have hl : (Value.ref (hp.objs.size + 1) :: us ++ ds).length = ps.length := by
    have e := r2.length
    rw [F1.len _ _ _ _ hq] at e
    exact e.symm
  have hus : us.length ≤ sizeLine := by
    rw [← Paired.length r1, sizeLine_eq]
    omega
  refine wpAny_call (PySem.HandSPX.call_own F.excBase_ValueError (fun Y => PySem.HandSPX.refsVE_contains Y bm hbm) (I1.kIn _ _ hC) (PySem.W.looks_findIn I1.kIn iC) (fun self => PySem.W.bind_fn I1.kIn self tI) hus
    (codeAny_mono (F1.run _ X.stack _ _ ⟨Value.ref (hp.objs.size + 1) :: us, []⟩ (Value.ref (hp.objs.size + 1) :: (us ++ ds)) _ _ (fun _ _ _ => False) (hr.make C us []) (I2.env0.make C us []) (hb _ (Value.ref (hp.objs.size + 1) :: us) I2.kIn hl) r2 hq) fun r s' hq' => ?_))
  cases r with
  | error er => exact hx pins σ _ _ er s' I2 hq'
  | ok fl =>
    cases fl with
    | ret u =>
      obtain ⟨v, H2, os2, bare2, un2, hok2, rv, ev, d, fs, ea, ed, hd1, q2⟩ := hq'
      subst ev
      obtain ⟨h2, g2, d2, t2, os'⟩ := s'
      exact ⟨rv, mk_endN (raises_own T.exC T.tyC) I1 hsz kk un2 hok2 os2 bare2 ea ed hd1 q2⟩
    | next => exact False.elim hq'
    | brk => exact False.elim hq'
    | cont => exact False.elim hq'
theorem passX0 {X : Cx} : Passes (L2N.CX X.prog X.w) X E0 := fun _ _ _ _ _ _ _ h => by
  obtain ⟨_, _, _, _, _, _, _, _, _, _, _, _, z⟩ := h
  exact z.elim
end
end K6
set_option Elab.async false
set_option linter.all false
set_option maxRecDepth 100000
set_option maxHeartbeats 4000000
namespace K6
open PySem PySem.Spec PyProof.Rows L2
section
variable {P : Program} {w : World} {K : PySem.W.Frag} {mg : Str → Option Value} {base : Heap} {D : Ads}
theorem any_beq (bs : List Bool) (b : Bool) : bs.any (· == b) = true ↔ b ∈ bs := by
  rw [List.any_eq_true]
  constructor
  · rintro ⟨x, hx, e⟩
    have e' : x = b := by simpa using e
    exact e' ▸ hx
  · intro h
    exact ⟨b, h, by simp⟩
theorem cnt_inside (st : List Stp) : 1 < cntB (rels true st) ↔ ¬ Inside st := by
  unfold cntB
  constructor
  · intro h hI
    by_cases h1 : (rels true st).any (· == true) = true
    · by_cases h2 : (rels true st).any (· == false) = true
      · have e1 := hI _ ((any_beq _ _).mp h1)
        have e2 := hI _ ((any_beq _ _).mp h2)
        rw [← e1] at e2; cases e2
      · rw [if_pos h1, if_neg h2] at h; omega
    · rw [if_neg h1] at h
      split at h <;> omega
  · intro h
    by_cases h1 : (rels true st).any (· == true) = true
    · by_cases h2 : (rels true st).any (· == false) = true
      · rw [if_pos h1, if_pos h2]; omega
      · refine absurd (fun b hb => ?_) h
        have hb' : ∀ c ∈ rels true st, c = true := fun c hc => by
          cases c
          · exact absurd ((any_beq _ _).mpr hc) h2
          · rfl
        have : same st = true := by
          unfold same
          cases q : rels true st with
          | nil => rfl
          | cons c r => exact hb' c (by rw [q]; simp)
        rw [this, hb' b hb]
    · by_cases h2 : (rels true st).any (· == false) = true
      · refine absurd (fun b hb => ?_) h
        have hb' : ∀ c ∈ rels true st, c = false := fun c hc => by
          cases c
          · rfl
          · exact absurd ((any_beq _ _).mpr hc) h1
        have : same st = false := by
          unfold same
          cases q : rels true st with
          | nil => rw [q] at hb; simp at hb
          | cons c r => exact hb' c (by rw [q]; simp)
        rw [this, hb' b hb]
      · refine absurd (fun b hb => ?_) h
        cases b
        · exact absurd ((any_beq _ _).mpr hb) h2
        · exact absurd ((any_beq _ _).mpr hb) h1
def Raised (D : Ads) (H : Hp) (E : XK) : Prop := ∀ (H' : Hp) (d : Addr), Same H H' → H d = none → H' d = some (.xd [("why", .str "orders")]) → E (.ref D.outside) (some d) H'
def spCheckInside (K : PySem.W.Frag) (D : Ads) : Sp := fun vs H Q E => ∃ (v : V) (L : Looms), vs = [v] ∧ LoomsAt K H v L ∧ LOk L ∧ ((∀ i, i < L.length → Inside (L.at i).steps) → Ret H Q .non) ∧ ((∃ i, i < L.length ∧ ¬ Inside (L.at i).steps) → Raised D H E)
theorem ok_checkInside (U : Txu w K mg D) : FnOk P w K mg base (L2N.CX P w) 3 (D.d 23).f (D.d 23).fd ["looms"] (spCheckInside K D) := by
  have T := U.T
  refine T.w23.F.okN scCheckInside (fun vs H Q E h => ?_) (fun cdv A outer s H vs Q E hr h => ?_)
  · obtain ⟨_, _, rfl, _⟩ := h
    rfl
  · obtain ⟨v, L, rfl, hL, ok, kQ, kE⟩ := h
    refine ⟨_, (pss_one (ps_for (passes_of rfl) rfl (pi_list (pe_callB (call_sortedD rfl) (by rfl) T.sorted boot_sorted (pa_cons (pv 0) pa_nil))) (pg_name (i := 1) scCheckInside.nd rfl (by first | exact Or.inl rfl | exact Or.inr rfl)) (pss_one (ps_if (pt_cmpR op_gt (pe_lenSetB (by rfl) T.len (by rfl) T.set (pe_call (ok_relations T) (hr.mono (by decide)) (by rfl) T.w22.m T.w22.F.kp T.w22.B .nil pass0 (pa_cons (pe_ix ix_tup (pe_dget (hu_of hr) (pv 0) (pv 1) (fun _ _ => rfl)) pe_int (fun _ _ => rfl)) pa_nil))) pe_int (nomark _)) (pss_one (L2N.ps_raise rfl (L2N.takes_of rfl rfl rfl rfl) (pmk_oexN U.oex U.oini U.ofun (ok_outsideInit U) (hr.mono (by decide)) U.oB .nil pass0 (by rfl) U.oM (pa_cons pe_str pa_nil)))) pss_nil)))), ?_⟩
    obtain ⟨a, kvs, rfl, hA, hK, hV⟩ := id hL
    have h3 := ok.three
    refine ⟨_, rfl, a, kvs, (List.range L.length).map nmS, rfl, .inl hA, by rw [hK]; simp, by simp; omega, fun ys p hperm _ hp => ⟨p, rfl, ⟨_, SqL.of upd_same⟩, ?_⟩⟩
    refine for_it (walk_list (K := K) (a := p) (xs := ys.map V.str)) (fun i σ Hy => ∃ z, σ = [some (.ref a), z] ∧ SqL K Hy p (ys.map V.str) ∧ Same H Hy ∧ ∀ j, j < L.length → nmS j ∈ ys.take i → Inside (L.at j).steps) ⟨none, rfl, SqL.of upd_same, same_new hp, fun j _ h => by simp at h⟩ (fun i σ Hy _ ⟨_, _, h, _⟩ => h) ?_ ?_
    · rintro i x σ Hy Hz hi ⟨z, rfl, h4, h5, h6⟩ ⟨rfl, ex⟩
      rw [List.getElem?_map] at ex
      obtain ⟨nm, en, rfl⟩ := Option.map_eq_some_iff.mp ex
      have hm := hperm.mem_iff.mp (List.mem_of_getElem? en)
      obtain ⟨j, hj, rfl⟩ := List.mem_map.mp hm
      have hj' : j < L.length := List.mem_range.mp hj
      obtain ⟨a', u', ea, hg, hd⟩ := looms_get (hL.mono h5) ok.three hj'
      cases ea
      obtain ⟨ll, v0, v1, v2, rfl, hll, k0, k1, k2⟩ := loom_get hd
      refine ⟨_, rfl, _, rfl, a, _, rfl, hg, ll, _, _, v0, rfl, rfl, hll, at_of (j := 0) rfl rfl, v0, (L.at j).steps, rfl, k0, steps_le ok _, fun H2 tv s2 ht => ?_⟩
      have hT := ht.mono fsh_le
      obtain ⟨tp, txs, rfl, ht1, ht2⟩ := id hT
      have etx := DpAll.of_bools ht2
      subst etx
      refine ⟨tp, rels true (L.at j).steps, rfl, SqL.of ht1, _, _, rfl, rfl, _, rfl, ?_⟩
      by_cases q : 1 < cntB (rels true (L.at j).steps)
      · have q' : (1 : Int) < (cntB (rels true (L.at j).steps) : Nat) := by omega
        rw [decide_eq_true q']
        refine iteT ?_
        have hE := kE ⟨j, hj', (cnt_inside _).mp q⟩
        refine ⟨by decide, fun e he => ⟨e, _, rfl, upd_same, fun dx hdx hne => ⟨rfl, dx, [(Str.ofString "why", V.str (Str.ofString "orders"))], upd_same, ?_, ?_, ?_⟩⟩⟩
        · rw [upd_ne hne]; exact upd_same
        · rw [upd_ne hne] at hdx; exact hdx
        · rw [upd_ne hne] at hdx
          have sH2 := h5.trans s2
          have nd : H dx = none := by
            cases z : H dx with
            | none => rfl
            | some u => rw [sH2 _ _ z] at hdx; cases hdx
          refine hE _ dx (fun b u eb => ?_) nd upd_same
          have b1 := ne_of_none (sH2 _ _ eb) he
          have b2 := ne_of_none (sH2 _ _ eb) hdx
          rw [upd_ne b2, L2.del_ne b1, upd_ne b1, upd_ne b2, upd_ne b1]
          exact sH2 _ _ eb
      · have q' : ¬ (1 : Int) < (cntB (rels true (L.at j).steps) : Nat) := by omega
        rw [decide_eq_false q']
        refine iteF ?_
        have hI : Inside (L.at j).steps := Classical.byContradiction fun h => q ((cnt_inside _).mpr h)
        refine ⟨_, rfl, s2.seq h4, h5.trans s2, fun j2 hj2 hm2 => ?_⟩
        rw [List.take_add_one, en] at hm2
        rcases List.mem_append.mp hm2 with h | h
        · exact h6 j2 hj2 h
        · have e : nmS j2 = nmS j := by simpa using h
          rw [nmS_inj (by omega) (by omega) e]; exact hI
    · rintro σ Hy ⟨z, rfl, h4, h5, h6⟩
      refine kQ (fun j hj => h6 j hj ?_) _ h5
      rw [List.length_map, List.take_length, hperm.mem_iff]
      exact List.mem_map.mpr ⟨j, List.mem_range.mpr hj, rfl⟩
end
end K6
set_option Elab.async false
set_option linter.all false
set_option maxRecDepth 100000
set_option maxHeartbeats 4000000
namespace K6
open PySem PySem.Spec PyProof.Rows L2
section
variable {P : Program} {w : World} {K : PySem.W.Frag} {mg : Str → Option Value} {base : Heap} {D : Ads}
def InsideL (L : Looms) : Prop := ∀ i, i < L.length → Inside (L.at i).steps
theorem InsideL.all {L : Looms} (h : InsideL L) : InsideAll L := fun i => by
  by_cases q : i < L.length
  · exact h i q
  · unfold Looms.at
    rw [List.getElem?_eq_none (by omega)]
    intro b hb
    simp [rels] at hb
theorem not_inside {L : Looms} (h : ¬ InsideL L) : ∃ i, i < L.length ∧ ¬ Inside (L.at i).steps := Classical.byContradiction fun q => h fun i hi => Classical.byContradiction fun z => q ⟨i, hi, z⟩
def spCheckBlocks (K : PySem.W.Frag) (D : Ads) : Sp := fun vs H Q E => ∃ (v : V) (L : Looms) (nm : Nat) (wa : Addr) (xs : List V) (ws : List (List Int)) (up : Bool), vs = [v, .str (nmS nm), .ref wa, .str (ordS up)] ∧ LoomsAt K H v L ∧ LOk L ∧ nm < L.length ∧ SqA K H wa xs ∧ DpAll K H xs (ws.map wD) ∧ WordsOk ws ∧ ws.length ≤ 4 ∧
  (InsideL L → Ret H Q .non) ∧ (¬ InsideL L → Raised D H E)
theorem Raised.mono {H H1 : Hp} {E : XK} (s : Same H H1) (h : Raised D H E) : Raised D H1 E := fun H' d s1 nd hd => h H' d (s.trans s1) (by
  cases z : H d with
  | none => rfl
  | some u => rw [s _ _ z] at nd; cases nd) hd
theorem seqA_mono {H H' : Hp} {a : Addr} {xs : List V} (s : Same H H') (h : SqA K H a xs) : SqA K H' a xs := h.imp s.seq (tupS s)
theorem ok_checkBlocks (U : Txu w K mg D) : FnOk P w K mg base (L2N.CX P w) 6 (D.d 49).f (D.d 49).fd ["looms", "name", "words", "order"] (spCheckBlocks K D) := by
  have T := U.T
  refine T.w49.F.okN scCheckBlocks (fun vs H Q E h => ?_) (fun cdv A outer s H vs Q E hr h => ?_)
  · obtain ⟨_, _, _, _, _, _, _, rfl, _⟩ := h
    rfl
  · obtain ⟨v, L, nm, wa, xs, ws, up, rfl, hL, ok, hnm, hwa, hx, hw, h4, kQ, kE⟩ := h
    refine ⟨_, (pss_cons (ps_expr (pe_call (ok_checkName T) (hr.mono (by decide)) (by rfl) T.w21.m T.w21.F.kp T.w21.B .nil pass0 (pa_cons (pv 0) (pa_cons (pv 1) pa_nil))))
      (pss_cons (ps_expr (pe_call (ok_checkWords T) (hr.mono (by decide)) (by rfl) T.w42.m T.w42.F.kp T.w42.B .nil pass0 (pa_cons (pv 2) pa_nil)))
      (pss_cons (ps_expr (pe_call (ok_checkOrder T) (hr.mono (by decide)) (by rfl) T.w41.m T.w41.F.kp T.w41.B .nil pass0 (pa_cons (pv 3) pa_nil)))
      (pss_one (ps_expr (pe_call (ok_checkInside U) (hr.mono (by decide)) (by rfl) T.w23.m T.w23.F.kp T.w23.B .nil (L2N.passes_call (L2N.takes_of rfl rfl rfl rfl) (fun _ _ _ _ h => h)) (pa_cons (pv 0) pa_nil))))))), ?_⟩
    refine ⟨_, rfl, _, rfl, v, L, nm, rfl, hL, ok, hnm, fun H1 s1 => ?_⟩
    refine ⟨_, rfl, wa, xs, ws, rfl, seqA_mono s1 hwa, hx.mono s1, hw, h4, fun H2 s2 => ?_⟩
    refine ⟨_, rfl, up, rfl, fun H3 s3 => ?_⟩
    have s := s1.trans (s2.trans s3)
    refine ⟨_, rfl, v, L, rfl, hL.mono s, ok, fun hi H4 s4 => kQ hi _ (s.trans s4), fun hn => (kE fun hi => ?_).mono s⟩
    obtain ⟨i, h1, h2⟩ := hn
    exact h2 (hi i h1)
end
end K6
set_option linter.all false
set_option maxRecDepth 100000
namespace K6
/-! ### the search of the least row -/
abbrev Itm := List PStep × PRow
abbrev Lat := List PStep × Node
def ItemOk (L : Looms) (S : List Node) (j k : Nat) (it : Itm) : Prop := ∃ n ∈ S, ∃ e, PathOk L n it.1 e ∧ RowOf L e it.2 ∧ it.1.length + k + 1 = j
def LateOk (L : Looms) (S : List Node) (j k : Nat) (x : Lat) : Prop := ∃ n ∈ S, PathOk L n x.1 x.2 ∧ x.1.length + k = j
structure SrInv (L : Looms) (S : List Node) (j k : Nat) (its : List Itm) (KN : List (Nat × Node)) : Prop where
  ok : ∀ it ∈ its, ItemOk L S j k it
  kn : ∀ p ∈ KN, k < p.1 ∧ Good p.2
  kl : KN.length ≤ (j - 1 - k) * 186
  comp : (∃ n ∈ S, Fails L j n) → ∃ it ∈ its, FailsRow (Fails L k) k it.2
structure SrIn (L : Looms) (S : List Node) (j k : Nat) (its : List Itm) (i : Nat) (late : List Lat) (KN : List (Nat × Node)) : Prop where
  ok : ∀ it ∈ its, ItemOk L S j k it
  lt : ∀ x ∈ late, LateOk L S j k x
  g : ∀ x ∈ late, Good x.2 ∧ NodeOk L x.2
  nd : (late.map Prod.snd).Nodup
  kn : ∀ p ∈ KN, (k < p.1 ∨ (p.1 = k ∧ p.2 ∈ late.map Prod.snd)) ∧ Good p.2
  lk : ∀ x ∈ late, (k, x.2) ∈ KN
  kl : KN.length ≤ (j - 1 - k) * 186 + late.length
  comp : (∃ n ∈ S, Fails L j n) → (∃ it ∈ its.drop i, FailsRow (Fails L k) k it.2) ∨ ∃ x ∈ late, Fails L k x.2
section
variable {L : Looms} {S : List Node} {j k i : Nat} {its : List Itm} {late : List Lat} {KN : List (Nat × Node)} {p : List PStep} {r : PRow} {m : Node}
theorem SrInv.enter (h : SrInv L S j k its KN) : SrIn L S j k its 0 [] KN where
  ok := h.ok
  lt := fun x hx => by simp at hx
  g := fun x hx => by simp at hx
  nd := by simp
  kn := fun p hp => ⟨.inl (h.kn p hp).1, (h.kn p hp).2⟩
  lk := fun x hx => by simp at hx
  kl := by simpa using h.kl
  comp := fun q => .inl (by simpa using h.comp q)
theorem drop_at {α : Type} {l : List α} {i : Nat} {a : α} (e : l[i]? = some a) : l.drop i = a :: l.drop (i + 1) := by
  obtain ⟨h1, h2⟩ := List.getElem?_eq_some_iff.mp e
  rw [List.drop_eq_getElem_cons h1, h2]
theorem SrIn.skip (h : SrIn L S j k its i late KN) (e : its[i]? = some (p, r)) (hn : FailsRow (Fails L k) k r → ∃ x ∈ late, Fails L k x.2) : SrIn L S j k its (i + 1) late KN where
  ok := h.ok
  lt := h.lt
  g := h.g
  nd := h.nd
  kn := h.kn
  lk := h.lk
  kl := h.kl
  comp := fun q => by
    rcases h.comp q with ⟨it, hit, hf⟩ | q
    · rw [drop_at e] at hit
      rcases List.mem_cons.mp hit with z | z
      · rw [z] at hf; exact .inr (hn hf)
      · exact .inl ⟨it, z, hf⟩
    · exact .inr q
theorem SrIn.far (h : SrIn L S j k its i late KN) (e : its[i]? = some (p, r)) (hw : ¬ r.lv.2.way.length ≤ 2 ^ k) : SrIn L S j k its (i + 1) late KN := h.skip e fun q => absurd q.1 hw
theorem SrIn.old (h : SrIn L S j k its i late KN) (e : its[i]? = some (p, r)) (en : r.node = some m) (hm : (k, m) ∈ KN) : SrIn L S j k its (i + 1) late KN := h.skip e fun q => by
  rcases q.2 with q | ⟨m', e', q⟩
  · rw [en] at q; cases q
  · rw [en] at e'
    cases e'
    rcases (h.kn _ hm).1 with z | ⟨_, z⟩
    · exact absurd z (Nat.lt_irrefl _)
    · obtain ⟨x, hx, rfl⟩ := List.mem_map.mp z
      exact ⟨x, hx, q⟩
theorem SrIn.fresh (h : SrIn L S j k its i late KN) (e : its[i]? = some (p, r)) (en : r.node = some m) (hm : ¬ (k, m) ∈ KN) (hg : Good m ∧ NodeOk L m) :
    ∃ s, r.side = some s ∧ SrIn L S j k its (i + 1) (late ++ [(p ++ [(r.lv, s, r.turned)], m)]) (KN ++ [(k, m)]) := by
  obtain ⟨n, hn, e', h1, h2, h3⟩ := h.ok _ (List.mem_of_getElem? e)
  obtain ⟨a1, a2, a3⟩ := h2
  rcases a3 with ⟨a3, _⟩ | ⟨s, c, hc, a3⟩
  · have : r = ⟨r.lv, none, none, false⟩ := a3
    rw [this] at en; cases en
  have a3' : r = ⟨r.lv, some s, some (child c e'.up (halfW r.lv s)), c.2⟩ := a3
  have es : r.side = some s := by rw [a3']
  have et : r.turned = c.2 := by rw [a3']
  have em : m = child c e'.up (halfW r.lv s) := by
    have : r.node = some (child c e'.up (halfW r.lv s)) := by rw [a3']
    rw [en] at this; exact Option.some.inj this
  have hp : PathOk L n (p ++ [(r.lv, s, r.turned)]) m := by rw [et, em]; exact h1.snoc a1 a2 hc
  have hnl : ¬ m ∈ late.map Prod.snd := fun q => by
    obtain ⟨x, hx, rfl⟩ := List.mem_map.mp q
    exact hm (h.lk x hx)
  refine ⟨s, es, ?_⟩
  exact {
    ok := h.ok
    lt := fun x hx => by
      rcases List.mem_append.mp hx with q | q
      · exact h.lt x q
      · rw [List.mem_singleton.mp q]
        refine ⟨n, hn, hp, ?_⟩
        rw [List.length_append]
        show p.length + 1 + k = j
        have : p.length + k + 1 = j := h3
        omega
    g := fun x hx => by
      rcases List.mem_append.mp hx with q | q
      · exact h.g x q
      · rw [List.mem_singleton.mp q]; exact hg
    nd := by
      rw [List.map_append, List.nodup_append]
      refine ⟨h.nd, by simp, fun a ha b hb => ?_⟩
      have eb : b = m := by simpa using hb
      rw [eb]
      exact fun z => hnl (z ▸ ha)
    kn := fun q hq => by
      rw [List.map_append]
      rcases List.mem_append.mp hq with z | z
      · obtain ⟨b1, b2⟩ := h.kn q z
        exact ⟨b1.imp id fun b => ⟨b.1, List.mem_append_left _ b.2⟩, b2⟩
      · rw [List.mem_singleton.mp z]
        exact ⟨.inr ⟨rfl, by simp⟩, hg.1⟩
    lk := fun x hx => by
      rcases List.mem_append.mp hx with q | q
      · exact List.mem_append_left _ (h.lk x q)
      · rw [List.mem_singleton.mp q]; simp
    kl := by
      rw [List.length_append, List.length_append]
      have := h.kl
      show KN.length + 1 ≤ _ + (late.length + 1)
      omega
    comp := fun q => by
      rcases h.comp q with ⟨it, hit, hf⟩ | ⟨x, hx, hf⟩
      · rw [drop_at e] at hit
        rcases List.mem_cons.mp hit with z | z
        · rw [z] at hf
          rcases hf.2 with y | ⟨m', e1, y⟩
          · have : r.node = none := y
            rw [en] at this; cases this
          · have e1' : r.node = some m' := e1
            rw [en] at e1'
            cases e1'
            exact .inr ⟨_, List.mem_append_right _ (List.mem_singleton.mpr rfl), y⟩
        · exact .inl ⟨it, z, hf⟩
      · exact .inr ⟨x, List.mem_append_left _ hx, hf⟩ }
theorem SrIn.size (h : SrIn L S j k its i late KN) : late.length ≤ 186 := by
  have := nodup_le (late.map Prod.snd) uni h.nd fun n hn => by
    obtain ⟨x, hx, rfl⟩ := List.mem_map.mp hn
    exact good_uni (h.g x hx).1
  rw [uni_len, List.length_map] at this
  exact this
theorem SrIn.leave {its' : List Itm} (h : SrIn L S j (k + 1) its its.length late KN) (hj : k + 2 ≤ j) (hi : ∀ it, it ∈ its' ↔ ∃ x ∈ late, it.1 = x.1 ∧ RowOf L x.2 it.2) : SrInv L S j k its' KN where
  ok := fun it hit => by
    obtain ⟨x, hx, e, hr⟩ := (hi it).mp hit
    obtain ⟨n, hn, hp, hl⟩ := h.lt x hx
    exact ⟨n, hn, x.2, by rw [e]; exact hp, hr, by rw [e]; omega⟩
  kn := fun p hp => by
    obtain ⟨b1, b2⟩ := h.kn p hp
    exact ⟨by rcases b1 with b | b <;> omega, b2⟩
  kl := by
    have h1 := h.kl
    have h2 := h.size
    have e : j - 1 - k = (j - 1 - (k + 1)) + 1 := by omega
    rw [e, Nat.add_mul]
    omega
  comp := fun q => by
    rcases h.comp q with ⟨it, hit, _⟩ | ⟨x, hx, r, h1, h2⟩
    · rw [List.drop_length] at hit; simp at hit
    · exact ⟨(x.1, r), (hi _).mpr ⟨x, hx, rfl, h1⟩, h2⟩
theorem SrIn.last (h : SrIn L S j 0 its its.length late KN) : ∀ n ∈ S, ¬ Fails L j n := fun n hn q => by
  rcases h.comp ⟨n, hn, q⟩ with ⟨it, hit, _⟩ | ⟨x, _, hx⟩
  · rw [List.drop_length] at hit; simp at hit
  · exact hx
theorem SrInv.none (h : SrInv L S j k [] KN) : ∀ n ∈ S, ¬ Fails L j n := fun n hn q => by
  obtain ⟨it, hit, _⟩ := h.comp ⟨n, hn, q⟩
  simp at hit
/-- a row of the pieces of the node n, of 2^j cells, that the loom leaves not sorted -/
def BadRow (L : Looms) (j : Nat) (n : Node) (row : List Int) : Prop := ∃ sz : List Nat, row = expand n.w sz ∧ sz.length = n.w.length ∧ Pos sz ∧ row.length = 2 ^ j ∧ ¬ srt n.up (doneN L j n.nm row)
theorem SrIn.bad (hI : InsideAll L) (hW : WF L) (hS : ∀ n ∈ S, Good n) (h : SrIn L S j k its i late KN) (e : its[i]? = some (p, r)) (en : r.node = none) (hw : r.lv.2.way.length ≤ 2 ^ k) :
    ∃ n ∈ S, ∃ e, PathOk L n p e ∧ Good n ∧ RowOf L e r ∧ p.length + k + 1 = j ∧ BadRow L j n (builtM p r.lv (room r.lv.2.way.length (2 ^ k))).1 := by
  obtain ⟨n, hn, e', h1, h2, h3⟩ := h.ok _ (List.mem_of_getElem? e)
  have hg := hS n hn
  have h0 : 0 < r.lv.2.way.length := h2.2.1.len.1
  obtain ⟨r1, r2, r3⟩ := room_ok h0 hw
  obtain ⟨b1, b2, b3, b4, b5⟩ := built_ok hI h1 h2 en r1 r2 r3 hg.2.1
  have h3' : p.length + k + 1 = j := h3
  have ej : k + 1 + p.length = j := by omega
  rw [ej] at b4 b5
  exact ⟨n, hn, e', h1, hg, h2, h3', _, b1, b2, b3, b4, b5⟩
end
end K6
set_option Elab.async false
set_option linter.all false
set_option maxRecDepth 100000
set_option maxHeartbeats 4000000
namespace K6
open PySem PySem.Spec PyProof.Rows L2
theorem off_old {ls : List Addr} {H Hx : Hp} (s : Same H Hx) (n : ∀ l ∈ ls, H l = none) : Same H (drp ls Hx) := fun b u e => by
  have hb : b ∉ ls := fun q => by rw [n b q] at e; cases e
  rw [drp_not hb]; exact s b u e
theorem off_more {ls ms : List Addr} {H : Hp} {p : Addr} {o : HO} (h : H p = none) (hs : ∀ b ∈ ms, b = p ∨ b ∈ ls) : Same (drp ls H) (drp ms (upd H p o)) := fun b u e => by
  have hl : b ∉ ls := fun q => by rw [drp_in q] at e; cases e
  rw [drp_not hl] at e
  have hp := ne_of_none e h
  have hm : b ∉ ms := fun q => (hs b q).elim hp hl
  rw [drp_not hm, upd_ne hp]; exact e
theorem off_sub {ls ms : List Addr} {H : Hp} (hs : ∀ b ∈ ms, b ∈ ls) : Same (drp ls H) (drp ms H) := fun b u e => by
  have hl : b ∉ ls := fun q => by rw [drp_in q] at e; cases e
  rw [drp_not hl] at e
  rw [drp_not fun q => hl (hs b q)]; exact e
theorem off_fsh {ls : List Addr} {H H' : Hp} (h : ∀ l ∈ ls, ∃ o, H l = some o ∧ isTup o = false) : Same (fsh H H') (drp ls H') := (fsh_drp h).trans (drp_same fsh_le)
theorem off_get {ls : List Addr} {H : Hp} {p : Addr} {o : HO} (h : H p = some o) (hp : p ∉ ls) : drp ls H p = some o := by rw [drp_not hp]; exact h
theorem dp_off {K : PySem.W.Frag} {ls : List Addr} {H : Hp} {v : V} {d : PyData} (h : ∀ l ∈ ls, ∃ o, H l = some o ∧ isTup o = false) (n : noL d = true) (hd : Dp K H v d) : Dp K (drp ls H) v d := (dp_own (Same.refl _) h n hd).mono (drp_same fsh_le)
theorem tup_off {K : PySem.W.Frag} {ls : List Addr} {H : Hp} {p : Addr} {xs : List V} (h : ∀ l ∈ ls, ∃ o, H l = some o ∧ isTup o = false) (ht : SqT K H p xs) : SqT K (drp ls H) p xs := tupS (drp_same fsh_le) (tup_own (Same.refl _) h ht)
def ItemAt (K : PySem.W.Frag) (D : Ads) (H : Hp) (v : V) (it : Itm) : Prop := ∃ (a pl : Addr) (xs : List V) (vl nv : V), v = .ref a ∧ SqT K H a [.ref pl, vl, sideV it.2.side, nv, .bl it.2.turned] ∧ SqL K H pl xs ∧ AllR (StepAt K D) H xs it.1 ∧ LevAt K D H vl it.2.lv ∧ Dp K H nv (nodeO it.2.node)
def LateAt (K : PySem.W.Frag) (D : Ads) (H : Hp) (v : V) (x : Lat) : Prop := ∃ (a pl : Addr) (xs : List V) (nv : V), v = .ref a ∧ SqT K H a [.ref pl, nv] ∧ SqL K H pl xs ∧ AllR (StepAt K D) H xs x.1 ∧ Dp K H nv (nodeD x.2)
theorem stepAt_mono {K : PySem.W.Frag} {D : Ads} : ∀ (H H' : Hp) (x : V) (a : PStep), Same H H' → StepAt K D H x a → StepAt K D H' x a := fun _ _ _ _ s h => h.mono s
theorem itemAt_mono {K : PySem.W.Frag} {D : Ads} : ∀ (H H' : Hp) (x : V) (a : Itm), Same H H' → ItemAt K D H x a → ItemAt K D H' x a := fun _ _ _ _ s ⟨a, pl, xs, vl, nv, e, h1, h2, h3, h4, h5⟩ => ⟨a, pl, xs, vl, nv, e, tupS s h1, s.seq h2, h3.mono stepAt_mono s, h4.mono s, h5.mono s⟩
theorem lateAt_mono {K : PySem.W.Frag} {D : Ads} : ∀ (H H' : Hp) (x : V) (a : Lat), Same H H' → LateAt K D H x a → LateAt K D H' x a := fun _ _ _ _ s ⟨a, pl, xs, nv, e, h1, h2, h3, h5⟩ => ⟨a, pl, xs, nv, e, tupS s h1, s.seq h2, h3.mono stepAt_mono s, h5.mono s⟩
/-! the keys (half, node) -/
abbrev hkD (p : Nat × Node) : PyData := .tuple [.int ((2 ^ p.1 : Nat) : Int), nodeD p.2]
def hK (p : Nat × Node) : NestedKey := nkD (hkD p)
theorem hK_eq (p : Nat × Node) : hK p = .tup [.num ((2 ^ p.1 : Nat) : Int), nK p.2] := by
  show nkD (.tuple [.int _, nodeD p.2]) = _
  rw [nkD, nkDs, nkDs, nkDs, nkD]; rfl
theorem hK_inj {p q : Nat × Node} (hp : p.2.nm < 3) (hq : q.2.nm < 3) (h : hK p = hK q) : p = q := by
  rw [hK_eq, hK_eq] at h
  injection h with h
  injection h with h1 h
  injection h with h2 _
  injection h1 with h1
  have e1 : 2 ^ p.1 = 2 ^ q.1 := by exact_mod_cast h1
  have e2 : p.1 = q.1 := (Nat.pow_right_inj (by decide)).mp e1
  exact Prod.ext e2 (nK_inj hp hq h2)
theorem hK_depth (p : Nat × Node) : (hK p).depth ≤ 8 := by
  rw [hK_eq, nK_eq, NestedKey.depth, NestedKey.depthAll, NestedKey.depthAll, NestedKey.depthAll, NestedKey.depth, NestedKey.depth, NestedKey.depthAll, NestedKey.depthAll, NestedKey.depthAll, NestedKey.depthAll, NestedKey.depth, NestedKey.depth, NestedKey.depth, depth_nums]
  decide
theorem noL_hk (p : Nat × Node) : noL (hkD p) = true := by
  show noL (.tuple [.int _, nodeD p.2]) = true
  rw [noL, noLs, noLs, noLs, noL, noL_node]; rfl
def HkKeys (K : PySem.W.Frag) (H : Hp) (ps : List (NestedKey × Addr)) (KN : List (Nat × Node)) : Prop := Keyed K H ps ∧ ps.map (·.1) = KN.map hK
theorem HkKeys.mono {K : PySem.W.Frag} {H H' : Hp} {ps : List (NestedKey × Addr)} {KN : List (Nat × Node)} (s : Same H H') (h : HkKeys K H ps KN) : HkKeys K H' ps KN := ⟨h.1.mono s, h.2⟩
theorem HkKeys.len {K : PySem.W.Frag} {H : Hp} {ps : List (NestedKey × Addr)} {KN : List (Nat × Node)} (h : HkKeys K H ps KN) : ps.length = KN.length := by simpa using congrArg List.length h.2
theorem HkKeys.has {K : PySem.W.Frag} {H : Hp} {ps : List (NestedKey × Addr)} {KN : List (Nat × Node)} {q : Nat × Node} (h : HkKeys K H ps KN) (hF : ∀ p ∈ KN, p.2.nm < 3) (hq : q.2.nm < 3) : hasN ps (hK q) = decide (q ∈ KN) := by
  have e : hasN ps (hK q) = (ps.map (·.1)).any fun k => decide (k = hK q) := by unfold hasN; rw [List.any_map]; rfl
  rw [e, h.2, List.any_map]
  apply Bool.eq_iff_iff.mpr
  rw [List.any_eq_true, decide_eq_true_eq]
  constructor
  · rintro ⟨m, hm, z⟩
    have z' : hK m = hK q := by simpa using z
    rw [← hK_inj (hF m hm) hq z']; exact hm
  · intro z
    exact ⟨q, z, by simp⟩
theorem HkKeys.put {K : PySem.W.Frag} {H : Hp} {ps : List (NestedKey × Addr)} {KN : List (Nat × Node)} {q : Nat × Node} {b : Addr} (h : HkKeys K H ps KN) (hF : ∀ p ∈ KN, p.2.nm < 3) (hq : q.2.nm < 3) (hb : KeyIs K H (.ref b) (hK q)) (hm : ¬ q ∈ KN) : HkKeys K H (putN ps (hK q) b) (KN ++ [q]) := by
  unfold putN
  rw [h.has hF hq, if_neg (by simpa using hm)]
  refine ⟨fun p hp => ?_, by rw [List.map_append, List.map_append, h.2]; rfl⟩
  rcases List.mem_append.mp hp with z | z
  · exact h.1 p z
  · rw [List.mem_singleton.mp z]; exact hb
end K6
set_option Elab.async false
set_option linter.all false
set_option maxRecDepth 100000
set_option maxHeartbeats 4000000
namespace K6
open PySem PySem.Spec PyProof.Rows L2
section
variable {P : Program} {w : World} {K : PySem.W.Frag} {mg : Str → Option Value} {base : Heap} {D : Ads}
theorem st_eq {σ σ' : L2.St} {H H' : Hp} {Q : L2.St → Hp → Prop} (e : σ = σ') (e2 : H = H') (h : Q σ' H') : Q σ H := by subst e; subst e2; exact h
def spSearchFound (K : PySem.W.Frag) (D : Ads) : Sp := fun vs H Q _ => ∃ (a dx ra : Addr) (fs : List (Str × V)) (v : V) (L : Looms) (S : List Node) (ys : List V) (rs : List PRow) (j : Nat), vs = [.ref a, .ref ra, .int ((2 ^ (j + 1) : Nat) : Int)] ∧ H a = some (.ins D.search dx fs) ∧ fs.lookup ("looms" : Str) = some v ∧ LoomsAt K H v L ∧ LOk L ∧ InsideL L ∧
  SqL K H ra ys ∧ AllR (RowAt K D) H ys rs ∧ (∀ r, r ∈ rs ↔ ∃ n ∈ S, RowOf L n r) ∧ (∀ n ∈ S, Good n ∧ NodeOk L n) ∧ j ≤ 20 ∧ rs.length ≤ 8000 ∧
  ((∀ n ∈ S, ¬ Fails L (j + 1) n) → Ret H Q .non) ∧
  ∀ H' q row, Same H H' → SqL K H' q (row.map V.int) → (∃ n ∈ S, BadRow L (j + 1) n row) → Q (.ref q) H'
def SrW (w : World) (K : PySem.W.Frag) (D : Ads) (H : Hp) (L : Looms) (S : List Node) (j : Nat) (a ra pk : Addr) (m : Nat) (σ : L2.St) (Hx : Hp) : Prop := ∃ z1 z2 z3 z4 z5 z6 wl wxs kps half, σ = [some (.ref a), some (.ref ra), some (.int ((2 ^ (j + 1) : Nat) : Int)), some (.ref wl), some (.int half), some (.ref pk), z1, z2, z3, z4, z5, z6, none] ∧ Same H Hx ∧ Hx pk = some (NdO w pk kps) ∧ Hx wl = some (.lst wxs) ∧ H wl = none ∧ wl ≠ pk ∧
  ((∃ k KN its, half = ((2 ^ k : Nat) : Int) ∧ m = k + 1 ∧ k ≤ j ∧ HkKeys K (drp [pk] Hx) kps KN ∧ AllR (ItemAt K D) (drp [pk] Hx) wxs its ∧ SrInv L S (j + 1) k its KN) ∨ (half = 0 ∧ m = 0 ∧ ∀ n ∈ S, ¬ Fails L (j + 1) n))
theorem ok_searchFound (U : Txu w K mg D) : FnOk P w K mg base CX0 10 (D.d 531).f (D.d 531).fd ["self", "rows", "size"] (spSearchFound K D) := by
  have T := U.T
  refine T.w531.F.ok scSearchFound (fun vs H Q E h => ?_) (fun cdv A outer s H vs Q E hr h => ?_)
  · obtain ⟨_, _, _, _, _, _, _, _, _, _, rfl, _⟩ := h
    rfl
  · obtain ⟨a, dx, ra, fs, v, L, S, ys, rs, j, rfl, ha, hfs, hL, ok, hI, hra, hx, hmem, hS, hj, hlen, kN, kR⟩ := h
    refine ⟨_, (pss_cons (ps_par3 (i := 3) (j := 4) (l := 5) (by rfl) scSearchFound.nd rfl rfl rfl (by decide) (by decide) (by decide) rfl rfl rfl (pa_cons (pe_lc (own := [("row", 12)]) (by rfl) scSearchFound.nd (pi_list (pv 1)) (blkOk_by (own := [("row", 12)]) (N := ["self", "rows", "size", "waiting", "half", "known", "late", "path", "level", "side", "node", "is_turned", "row"]) (sc := defScope sSearchFound) (by decide +kernel)) (fun _ _ _ _ _ => (pg_name (i := 12) scSearchFound.nd rfl (by first | exact Or.inl rfl | exact Or.inr rfl))) (fun _ _ _ _ _ => pts_nil) (fun _ _ _ _ _ => (pe_tup (pa_cons (pe_lst pa_nil) (pa_starK K (by rfl) (pv 12) pa_nil))))) (pa_cons (pe_op op_fdiv (pv 2) pe_int) (pa_cons pe_ndnew pa_nil))) (by rfl))
      (pss_cons (ps_while PassesOwn.never (PW.pt (pw_and (pt_cmpR (op_neNil hr.units0) (pv 3) (pe_lst pa_nil) (nomark _)) (pw_and1 (pt_cmpR op_gt (pv 4) pe_int (nomark _))))) (pss_cons (ps_set (i := 6) scSearchFound.nd rfl (by first | exact Or.inl rfl | exact Or.inr rfl) (pe_lst pa_nil))
      (pss_cons (ps_for PassesOwn.never rfl (pi_list (pv 3)) (pg_tup (by rfl) (pgs_cons (pg_name (i := 7) scSearchFound.nd rfl (by first | exact Or.inl rfl | exact Or.inr rfl)) (pgs_cons (pg_name (i := 8) scSearchFound.nd rfl (by first | exact Or.inl rfl | exact Or.inr rfl)) (pgs_cons (pg_name (i := 9) scSearchFound.nd rfl (by first | exact Or.inl rfl | exact Or.inr rfl)) (pgs_cons (pg_name (i := 10) scSearchFound.nd rfl (by first | exact Or.inl rfl | exact Or.inr rfl)) (pgs_cons (pg_name (i := 11) scSearchFound.nd rfl (by first | exact Or.inl rfl | exact Or.inr rfl)) pgs_nil)))))) (pss_cons (ps_if (PW.pt (pw_and (pt_cmpR op_le (pe_callB call_len_seq (by rfl) T.len boot_len (pa_cons (pe_fld (pv 8) (by rfl)) pa_nil)) (pv 4) (nomark _)) (pw_and1 (pt_cmp (pc_isN (pv 10)) rfl)))) (pss_one (ps_ret (pe_call (ok_built T) (hr.mono (by decide)) (by rfl) T.w52.m T.w52.F.kp T.w52.B .nil pass0 (pa_cons (pv 7) (pa_cons (pv 8) (pa_cons (pv 4) pa_nil)))))) pss_nil)
      (pss_one (ps_if (PW.pt (pw_and (pt_cmpR op_le (pe_callB call_len_seq (by rfl) T.len boot_len (pa_cons (pe_fld (pv 8) (by rfl)) pa_nil)) (pv 4) (nomark _)) (pw_and1 (pt_cmp (pc_ndnotin (lt64 hr.units) (pe_tup (pa_cons (pv 4) (pa_cons (pv 10) pa_nil))) (pv 5)) (by rfl))))) (pss_cons (ps_ndput (lt64 hr.units) (pv 5) (pe_tup (pa_cons (pv 4) (pa_cons (pv 10) pa_nil))) pe_bl rfl)
      (pss_one (ps_expr (pe_bm PySem.F.plainAttrs_list PySem.F.slot_list_append PySem.F.type_list_append mt_append (pv 6) (pa_cons (pe_tup (pa_cons (pe_lst (StX.pa_star (pv 7) (pa_cons (pe_tup (pa_cons (pv 8) (pa_cons (pv 9) (pa_cons (pv 11) pa_nil)))) pa_nil))) (pa_cons (pv 10) pa_nil))) pa_nil))))) pss_nil))))
      (pss_cons (ps_aug (i := 4) scSearchFound.nd rfl (by first | exact Or.inl rfl | exact Or.inr rfl) pe_int ip_fdiv)
      (pss_one (ps_setLc2 (i := 3) (own := [("path", 7), ("node", 10), ("row", 12)]) (vs1 := [12]) (by rfl) scSearchFound.nd rfl rfl (sw_true rfl rfl rfl (by decide +kernel)) (pi_list (pv 6)) (blkOk_by (own := [("path", 7), ("node", 10), ("row", 12)]) (N := ["self", "rows", "size", "waiting", "half", "known", "late", "path", "level", "side", "node", "is_turned", "row"]) (sc := defScope sSearchFound) (by decide +kernel)) (by decide) (fun _ _ _ _ _ => (pg_tupK (n := 2) K (by rfl) (by rfl) (pgs_cons (pg_name (i := 7) scSearchFound.nd rfl (by first | exact Or.inl rfl | exact Or.inr rfl)) (pgs_cons (pg_name (i := 10) scSearchFound.nd rfl (by first | exact Or.inl rfl | exact Or.inr rfl)) pgs_nil)))) (fun _ _ _ _ _ => pts_nil) (fun _ _ _ _ _ => (pi_listK K (by rfl) (pe_call (ok_stepsOf U) (hr.mono (by decide)) (by rfl) T.w44.m T.w44.F.kp T.w44.B .nil pass0 (pa_cons (pe_fldK K (by rfl) (pv 0) (by rfl)) (pa_cons (pv 10) pa_nil))))) (fun _ _ _ _ _ => (pg_name (i := 12) scSearchFound.nd rfl (by first | exact Or.inl rfl | exact Or.inr rfl))) (fun _ _ _ _ _ => pts_nil) (fun _ _ _ _ _ => (pe_tup (pa_cons (pv 7) (pa_starK K (by rfl) (pv 12) pa_nil))))))))))
      (pss_one (ps_ret pe_non)))), ?_⟩
    have zl : sizeLine = 16777216 := sizeLine_eq
    have hxl := hx.1
    refine ⟨_, rfl, ra, rfl, ⟨_, hra⟩, fun D1 hD1 => ?_⟩
    refine lc_it (walk_list (K := K) (a := ra) (xs := ys)) (fun i Hx => ∃ acc, Same H Hx ∧ Hx D1 = some (.lst acc) ∧ AllR (ItemAt K D) (drp [D1] Hx) acc ((rs.take i).map fun r => (([] : List PStep), r))) ⟨[], same_new hD1, upd_same, .nil⟩ (fun i Hx _ ⟨_, h, _⟩ => h.seq hra) ?_ ?_
    · rintro i x Hx Hy hi ⟨acc, sH, hD, hA⟩ ⟨rfl, ex⟩
      obtain ⟨r, er, rp, vl, nv, rfl, hSq, hlv, hnv⟩ := hx.2 i x ex
      have sD : ∀ {Hz}, Same Hy Hz → Hz D1 = some (.lst acc) := fun s => s _ _ hD
      have hl : rs.take (i + 1) = rs.take i ++ [r] := by rw [List.take_add_one, er]; rfl
      refine ⟨rfl, Nat.zero_le _, fun q hq => ⟨_, rfl, rp, _, rfl, .inl (tupS (sH.trans (same_new hq)) hSq), ?_⟩⟩
      refine ⟨by show 5 ≤ sizeLine; omega, fun z hz => ⟨acc, ?_, ?_, acc ++ [.ref z], ?_, upd_same, ?_⟩⟩
      · exact ((same_new hq).trans (same_new hz)) _ _ hD
      · have := hA.1
        have h2 : (rs.take i).length ≤ rs.length := by rw [List.length_take]; omega
        simp at this; omega
      · exact same_upd_new ((sH.trans (same_new hq)).trans (same_new hz)) hD1
      · have sz : Same Hy (upd (upd Hy q (.lst [])) z (.tup [.ref q, vl, sideV r.side, nv, .bl r.turned])) := (same_new hq).trans (same_new hz)
        have sHz := sH.trans sz
        have ml : ∀ l ∈ [D1], ∃ o, (upd (upd Hy q (.lst [])) z (.tup [.ref q, vl, sideV r.side, nv, .bl r.turned])) l = some o ∧ isTup o = false := fun l hl => by
          rw [List.mem_singleton.mp hl]; exact ⟨_, sz _ _ hD, rfl⟩
        have od : ∀ l ∈ [D1], H l = none := fun l hl => by rw [List.mem_singleton.mp hl]; exact hD1
        have so := off_old sHz od
        rw [drp_upd (by simp), hl, List.map_append]
        refine (hA.mono itemAt_mono (drp_same sz)).snoc ⟨z, q, [], vl, nv, rfl, tup_off ml (SqT.of upd_same), ?_, .nil, hlv.mono so, hnv.mono so⟩
        refine SqL.of (off_get ((same_new hz) _ _ upd_same) fun h => ?_)
        have e := List.mem_singleton.mp h
        rw [e] at hq; rw [hq] at hD; cases hD
    · rintro Hx ⟨acc, sH, hD, hA⟩
      rw [hxl, List.take_length] at hA
      refine ⟨_, rfl, _, _, rfl, rfl, ⟨by decide, by decide⟩, fun pk hpk => ⟨_, _, _, rfl, ?_⟩⟩
      have ediv : ((2 ^ (j + 1) : Nat) : Int) / 2 = ((2 ^ j : Nat) : Int) := by rw [Nat.pow_succ]; omega
      have nk : H pk = none := by
        cases q : H pk with
        | none => rfl
        | some u => rw [sH _ _ q] at hpk; cases hpk
      have n1k : D1 ≠ pk := fun e => by rw [e, hpk] at hD; cases hD
      have s1 := same_new (o := NdO w pk []) hpk
      have sA := sH.trans s1
      have hA1 : AllR (ItemAt K D) (drp [pk] (upd Hx pk (NdO w pk []))) acc (rs.map fun r => (([] : List PStep), r)) := hA.mono itemAt_mono (off_more hpk fun b hb => .inl (List.mem_singleton.mp hb))
      have hD1' := s1 _ _ hD
      have hk1 : (upd Hx pk (NdO w pk [])) pk = some (NdO w pk []) := upd_same
      have inv0 : SrInv L S (j + 1) j (rs.map fun r => (([] : List PStep), r)) [] := {
        ok := fun it hit => by
          obtain ⟨r, hr, rfl⟩ := List.mem_map.mp hit
          obtain ⟨n, hn, hrow⟩ := (hmem r).mp hr
          exact ⟨n, hn, n, .nil, hrow, by simp⟩
        kn := fun p hp => by simp at hp
        kl := by simp
        comp := fun ⟨n, hn, r, h1, h2⟩ => ⟨([], r), List.mem_map.mpr ⟨r, (hmem r).mpr ⟨n, hn, h1⟩, rfl⟩, h2⟩ }
      refine st_eq (H' := upd Hx pk (NdO w pk [])) (σ' := [some (.ref a), some (.ref ra), some (.int ((2 ^ (j + 1) : Nat) : Int)), some (.ref D1), some (.int ((2 ^ j : Nat) : Int)), some (.ref pk), none, none, none, none, none, none, none]) (by rw [← ediv]; rfl) rfl ?_
      generalize upd Hx pk (NdO w pk []) = H1 at sA hA1 hD1' hk1 ⊢
      refine ⟨SrW w K D H L S j a ra pk,
        ⟨_, none, none, none, none, none, none, D1, acc, [], _, rfl, sA, hk1, hD1', hD1, n1k, .inl ⟨j, [], _, rfl, rfl, Nat.le_refl _, ⟨fun p hp => by simp at hp, rfl⟩, hA1, inv0⟩⟩, ?_⟩
      rintro m σ Hx2 ⟨z1, z2, z3, z4, z5, z6, wl, wxs, kps, half, rfl, sHx, hk, hwl, nwl, nekl, hcase⟩
      refine ⟨_, rfl, Nat.zero_le _, fun q hq => ?_⟩
      have t1 := same_new (o := .lst []) hq
      refine ⟨wl, q, wxs, rfl, rfl, t1 _ _ hwl, upd_same, _, rfl, ?_⟩
      by_cases hwe : wxs = []
      · subst hwe
        refine iteF (iteF ?_)
        refine kN ?_ _ (sHx.trans t1)
        rcases hcase with ⟨k, KN, its, _, _, _, _, hA, hV⟩ | ⟨_, _, h⟩
        · have e : its = [] := List.eq_nil_of_length_eq_zero hA.1.symm
          subst e; exact hV.none
        · exact h
      have ne : wxs.isEmpty = false := by
        cases wxs with
        | nil => exact absurd rfl hwe
        | cons _ _ => rfl
      rw [ne]
      refine iteT ?_
      rcases hcase.symm with ⟨rfl, rfl, h⟩ | ⟨k, KN, its, rfl, rfl, hkj, hKk, hA, hV⟩
      · exact ⟨_, rfl, _, _, rfl, rfl, false, rfl, iteF (kN h _ (sHx.trans t1))⟩
      have h2k : 0 < 2 ^ k := Nat.pow_pos (by decide)
      refine ⟨_, rfl, _, _, rfl, rfl, true, congrArg V.bl (decide_eq_true (by omega)), iteT ?_⟩
      have sq := sHx.trans t1
      have hk1 := t1 _ _ hk
      have hwl1 := t1 _ _ hwl
      have hKk1 := hKk.mono (drp_same (ls := [pk]) t1)
      have hA1' := hA.mono itemAt_mono (drp_same (ls := [pk]) t1)
      generalize upd Hx2 q (.lst []) = H2 at sq hk1 hwl1 hKk1 hA1' ⊢
      refine ⟨fun σ' H' => ∃ m', m' < k + 1 ∧ SrW w K D H L S j a ra pk m' σ' H', fun σ' H' h => h, ?_⟩
      -- late = []
      refine ⟨Nat.zero_le _, fun pl hpl => ?_⟩
      have t2 := same_new (o := .lst []) hpl
      have npl : H pl = none := by
        cases q : H pl with
        | none => rfl
        | some u => rw [sq _ _ q] at hpl; cases hpl
      have nekp : pk ≠ pl := fun e => by rw [e, hpl] at hk1; cases hk1
      have newl : wl ≠ pl := fun e => by rw [e, hpl] at hwl1; cases hwl1
      refine gn_st (σ' := [some (.ref a), some (.ref ra), some (.int ((2 ^ (j + 1) : Nat) : Int)), some (.ref wl), some (.int ((2 ^ k : Nat) : Int)), some (.ref pk), some (.ref pl), z2, z3, z4, z5, z6, none]) rfl ?_
      have om : Same (drp [pk] H2) (drp [pk, pl] (upd H2 pl (.lst []))) := off_more hpl fun b hb => by
        rcases List.mem_cons.mp hb with e | e
        · exact .inr (by simp [e])
        · exact .inl (List.mem_singleton.mp e)
      have f1 := sq.trans t2
      have f2 := t2 _ _ hk1
      have f3 := t2 _ _ hwl1
      have f4 := hKk1.mono om
      have f5 := hA1'.mono itemAt_mono om
      have f6 : (upd H2 pl (.lst [])) pl = some (.lst []) := upd_same
      generalize upd H2 pl (.lst []) = H3 at f1 f2 f3 f4 f5 f6 ⊢
      have hwlen : wxs.length = its.length := f5.1
      refine ⟨_, rfl, wl, rfl, ⟨_, SqL.of f3⟩, ?_⟩
      refine for_it (walk_list (K := K) (a := wl) (xs := wxs)) (fun i σ Hy => ∃ z2 z3 z4 z5 z6 late lxs KN2 kps2, σ = [some (.ref a), some (.ref ra), some (.int ((2 ^ (j + 1) : Nat) : Int)), some (.ref wl), some (.int ((2 ^ k : Nat) : Int)), some (.ref pk), some (.ref pl), z2, z3, z4, z5, z6, none] ∧ Same H Hy ∧ Hy wl = some (.lst wxs) ∧ Hy pk = some (NdO w pk kps2) ∧ Hy pl = some (.lst lxs) ∧
        HkKeys K (drp [pk, pl] Hy) kps2 KN2 ∧ AllR (LateAt K D) (drp [pk, pl] Hy) lxs late ∧ AllR (ItemAt K D) (drp [pk, pl] Hy) wxs its ∧ SrIn L S (j + 1) k its i late KN2)
        ⟨z2, z3, z4, z5, z6, [], [], KN, kps, rfl, f1, f3, f2, f6, f4, .nil, f5, hV.enter⟩ (fun i σ Hy _ ⟨_, _, _, _, _, _, _, _, _, _, _, h, _⟩ => SqL.of h) ?_ ?_
      · rintro i x σ Hy' Hy hi ⟨z2, z3, z4, z5, z6, late, lxs, KN2, kps2, rfl, g1, g2, g3, g4, g5, g6, g7, g8⟩ ⟨rfl, ex⟩
        obtain ⟨⟨p, r⟩, er, ia, pp, pxs, vl, nv, rfl, hSq, hpp, hst, hlv, hnv⟩ := g7.2 i x ex
        have hml : ∀ l ∈ [pk, pl], ∃ o, Hy l = some o ∧ isTup o = false := fun l hl => by
          rcases List.mem_cons.mp hl with e | e
          · rw [e]; exact ⟨_, g3, rfl⟩
          · rw [List.mem_singleton.mp e]; exact ⟨_, g4, rfl⟩
        have hlv2 := hlv.mono drp_le
        obtain ⟨va, hv, wv, n1, dx1, fs1, p1, p2, p3, rfl, hLI, hh, hw⟩ := id hlv2
        obtain ⟨wp, wpx, rfl, hwp, hwx⟩ := hw.tuple
        have hwl : wpx.length = r.lv.2.way.length := by rw [hwx.length]; simp
        refine ⟨ia, _, rfl, tupS drp_le hSq, rfl, _, _, rfl, _, _, rfl, _, _, rfl, _, _, rfl, _, _, rfl, rfl, ?_⟩
        refine st_eq (σ' := [some (.ref a), some (.ref ra), some (.int ((2 ^ (j + 1) : Nat) : Int)), some (.ref wl), some (.int ((2 ^ k : Nat) : Int)), some (.ref pk), some (.ref pl), some (.ref pp), some (.ref va), some (sideV r.side), some nv, some (.bl r.turned), none]) rfl rfl ?_
        refine ⟨_, rfl, va, D.level, dx1, fs1, .ref wp, rfl, hLI.ins, T.levelC, T.lN "way", hLI.way, _, _, rfl, .inr hwp, _, rfl, _, _, rfl, rfl, decide (r.lv.2.way.length ≤ 2 ^ k), ?_, ?_⟩
        · refine congrArg V.bl (decide_eq_decide.mpr ?_)
          rw [hwl]; omega
        by_cases hway : r.lv.2.way.length ≤ 2 ^ k
        · rw [decide_eq_true hway]
          refine iteT ?_
          cases hrn : r.node with
          | none =>
            have ev : nv = .non := by
              have h0 : Dp K (drp [pk, pl] Hy) nv (nodeO r.node) := hnv
              rw [hrn] at h0
              exact Dp.isNone h0
            subst ev
            obtain ⟨n, hn, e, q1, q2, q3, q4, q5⟩ := g8.bad hI.all ok.wf (fun n hn => (hS n hn).1) er hrn hway
            refine ⟨_, rfl, _, rfl, iteT ?_⟩
            exact ⟨_, rfl, _, rfl, _, rfl, pp, pxs, .ref va, L, n, e, p, r, k, rfl, (hpp.imp (fun h => h) (fun h => h) |> fun h => (drp_le (ls := [pk, pl])).seq h), hst.mono stepAt_mono drp_le, hlv2, hI.all, ok.wf, q1, q2, q3, hrn, hway, by omega, fun H' q s h => kR H' q _ (g1.trans s) h ⟨n, hn, q5⟩⟩
          | some m =>
            have hnv2 : Dp K (drp [pk, pl] Hy) nv (nodeD m) := by
              have h0 : Dp K (drp [pk, pl] Hy) nv (nodeO r.node) := hnv
              rw [hrn] at h0
              exact h0
            obtain ⟨nb, nwa, rfl, _⟩ := node_get hnv2
            have hnv3 := hnv2.mono drp_le
            refine ⟨_, rfl, _, rfl, iteF ?_⟩
            refine ⟨_, rfl, va, D.level, dx1, fs1, .ref wp, rfl, hLI.ins, T.levelC, T.lN "way", hLI.way, _, _, rfl, .inr hwp, _, rfl, _, _, rfl, rfl, true, ?_, ?_⟩
            · refine congrArg V.bl (decide_eq_true ?_)
              rw [hwl]; omega
            refine iteT ?_
            obtain ⟨n0, hn0, e0, pq1, pq2, pq3⟩ := g8.ok _ (List.mem_of_getElem? er)
            have hge := path_end ok.wf pq1 (hS n0 hn0).1
            have hgm : Good m ∧ NodeOk L m := ⟨(row_good ok.wf hge pq2 hrn).1, row_ok ok pq2 hrn⟩
            have hKN3 : ∀ q ∈ KN2, q.2.nm < 3 := fun q hq => (g8.kn q hq).2.1
            -- (half, node) not in known
            refine ⟨_, rfl, _, rfl, small2, fun q hq => ?_⟩
            have t3 := same_new (o := .tup [.int ((2 ^ k : Nat) : Int), .ref nb]) hq
            have key : ∀ {Hz} {q : Addr}, Same Hy Hz → Hz q = some (.tup [.int ((2 ^ k : Nat) : Int), .ref nb]) → KeyIs K Hz (.ref q) (hK (k, m)) := fun sz e => ⟨hkD (k, m), .tup (SqT.of e) (.cons (.int _) (.cons (hnv3.mono sz) .nil)), noL_hk _, rfl, hK_depth _⟩
            refine ⟨_, rfl, pk, q, kps2, hK (k, m), rfl, rfl, t3 _ _ g3, (g5.1.mono drp_le).mono t3, key t3 upd_same, _, rfl, ?_⟩
            rw [if_pos rfl, g5.has hKN3 hgm.1.1]
            have s3 := g1.trans t3
            have k2 := t3 _ _ g2
            have k3 := t3 _ _ g3
            have k4 := t3 _ _ g4
            have k5 := g5.mono (drp_same (ls := [pk, pl]) t3)
            have k6 := g6.mono lateAt_mono (drp_same (ls := [pk, pl]) t3)
            have k7 := g7.mono itemAt_mono (drp_same (ls := [pk, pl]) t3)
            by_cases hm : (k, m) ∈ KN2
            · rw [decide_eq_true hm]
              exact iteF ⟨_, _, _, _, _, late, lxs, KN2, kps2, rfl, s3, k2, k3, k4, k5, k6, k7, g8.old er hrn hm⟩
            · rw [decide_eq_false hm]
              refine iteT ?_
              obtain ⟨sd, esd, hV2⟩ := g8.fresh er hrn hm hgm
              have hs1 := hV2.size
              have hs2 := hV2.kl
              have hl1 := k5.len
              have hl2 : lxs.length = late.length := k6.1
              have hj20 : (j + 1 - 1 - k) * 186 ≤ 20 * 186 := Nat.mul_le_mul_right _ (by omega)
              rw [List.length_append] at hs1 hs2
              have e1l : ([(p ++ [(r.lv, sd, r.turned)], m)] : List Lat).length = 1 := rfl
              -- known[half, node] = True
              generalize upd Hy q (.tup [.int ((2 ^ k : Nat) : Int), .ref nb]) = Hq at t3 s3 k2 k3 k4 k5 k6 k7 ⊢
              refine ⟨_, rfl, _, rfl, _, rfl, small2, fun q2 hq2 => ?_⟩
              have t4 := same_new (o := .tup [.int ((2 ^ k : Nat) : Int), .ref nb]) hq2
              have t34 := t3.trans t4
              have kz := key t34 upd_same
              have m3 := t4 _ _ k3
              refine ⟨pk, q2, kps2, hK (k, m), rfl, rfl, rfl, m3, (k5.1.mono drp_le).mono t4, kz, ?_, ?_⟩
              · rw [List.length_append] at hs2
                omega
              have ml4 : ∀ l ∈ [pk, pl], ∃ o, (upd Hq q2 (.tup [.int ((2 ^ k : Nat) : Int), .ref nb])) l = some o ∧ isTup o = false := fun l hl => by
                rcases List.mem_cons.mp hl with e | e
                · rw [e]; exact ⟨_, m3, rfl⟩
                · rw [List.mem_singleton.mp e]; exact ⟨_, t4 _ _ k4, rfl⟩
              have kz' : KeyIs K (drp [pk, pl] (upd Hq q2 (.tup [.int ((2 ^ k : Nat) : Int), .ref nb]))) (.ref q2) (hK (k, m)) := by
                obtain ⟨d, d1, d2, d3, d4⟩ := kz
                exact ⟨d, dp_off ml4 d2 d1, d2, d3, d4⟩
              have m5 := (k5.mono (drp_same (ls := [pk, pl]) t4)).put (q := (k, m)) hKN3 hgm.1.1 kz' hm
              have m6 := k6.mono lateAt_mono (drp_same (ls := [pk, pl]) t4)
              have m7 := k7.mono itemAt_mono (drp_same (ls := [pk, pl]) t4)
              have m2 := t4 _ _ k2
              have m4 := t4 _ _ k4
              have n5 := s3.trans t4
              have offs : Same (drp [pk, pl] Hy) (drp [pk, pl] (upd Hq q2 (.tup [.int ((2 ^ k : Nat) : Int), .ref nb]))) := drp_same t34
              generalize upd Hq q2 (.tup [.int ((2 ^ k : Nat) : Int), .ref nb]) = Hr at t34 m2 m3 m4 m5 m6 m7 n5 offs ⊢
              have eo : drp [pk, pl] (upd Hr pk (NdO w pk (putN kps2 (hK (k, m)) q2))) = drp [pk, pl] Hr := drp_upd (by simp)
              have r1 : Same H (upd Hr pk (NdO w pk (putN kps2 (hK (k, m)) q2))) := same_upd_new n5 nk
              have r2 : (upd Hr pk (NdO w pk (putN kps2 (hK (k, m)) q2))) wl = some (.lst wxs) := by rw [upd_ne nekl]; exact m2
              have r3 : (upd Hr pk (NdO w pk (putN kps2 (hK (k, m)) q2))) pk = some (NdO w pk (putN kps2 (hK (k, m)) q2)) := upd_same
              have r4 : (upd Hr pk (NdO w pk (putN kps2 (hK (k, m)) q2))) pl = some (.lst lxs) := by rw [upd_ne (Ne.symm nekp)]; exact m4
              rw [← eo] at m5 m6 m7 offs
              refine st_eq (H' := upd Hr pk (NdO w pk (putN kps2 (hK (k, m)) q2))) rfl rfl ?_
              generalize upd Hr pk (NdO w pk (putN kps2 (hK (k, m)) q2)) = Hs at m5 m6 m7 offs r1 r2 r3 r4 ⊢
              -- late.append(([*path, (level, side, is_turned)], node))
              have offH : Same (drp [pk, pl] Hy) Hs := offs.trans drp_le
              refine ⟨_, rfl, .inl ⟨rfl, _, SqL.of r4⟩, _, rfl, pp, pxs, rfl, .inr (offH.seq hpp), _, rfl, _, rfl, _, rfl, small3, fun q3 hq3 => ⟨?_, fun q4 hq4 => ⟨_, rfl, small2, fun q5 hq5 => ?_⟩⟩⟩
              · have h1 := hst.1
                have h2 : p.length + k + 1 = j + 1 := pq3
                show (pxs ++ [_]).length ≤ _
                rw [List.length_append]
                show pxs.length + 1 ≤ _
                have h3 : pxs.length = p.length := h1
                omega
              have w1 := same_new (o := .tup [.ref va, sideV r.side, .bl r.turned]) hq3
              have w2 := same_new (o := .lst (pxs ++ [.ref q3])) hq4
              have w3 := same_new (o := .tup [.ref q4, .ref nb]) hq5
              have w := (w1.trans w2).trans w3
              have x3 : (upd (upd (upd Hs q3 (.tup [.ref va, sideV r.side, .bl r.turned])) q4 (.lst (pxs ++ [.ref q3]))) q5 (.tup [.ref q4, .ref nb])) q3 = some (.tup [.ref va, sideV r.side, .bl r.turned]) := w3 _ _ (w2 _ _ upd_same)
              have x4 : (upd (upd (upd Hs q3 (.tup [.ref va, sideV r.side, .bl r.turned])) q4 (.lst (pxs ++ [.ref q3]))) q5 (.tup [.ref q4, .ref nb])) q4 = some (.lst (pxs ++ [.ref q3])) := w3 _ _ upd_same
              have x5 : (upd (upd (upd Hs q3 (.tup [.ref va, sideV r.side, .bl r.turned])) q4 (.lst (pxs ++ [.ref q3]))) q5 (.tup [.ref q4, .ref nb])) q5 = some (.tup [.ref q4, .ref nb]) := upd_same
              have nq4 : q4 ∉ [pk, pl] := fun z => by
                rcases List.mem_cons.mp z with e | e
                · rw [e, w1 _ _ r3] at hq4; cases hq4
                · rw [List.mem_singleton.mp e, w1 _ _ r4] at hq4; cases hq4
              refine ⟨pl, lxs, _, rfl, rfl, w _ _ r4, by omega, ?_⟩
              change ∃ z2 z3 z4 z5 z6 late lxs KN2 kps2, _
              generalize upd (upd (upd Hs q3 (.tup [.ref va, sideV r.side, .bl r.turned])) q4 (.lst (pxs ++ [.ref q3]))) q5 (.tup [.ref q4, .ref nb]) = Ht at w x3 x4 x5 ⊢
              have y4 := w _ _ r4
              have ml5 : ∀ l ∈ [pk, pl], ∃ o, Ht l = some o ∧ isTup o = false := fun l hl => by
                rcases List.mem_cons.mp hl with e | e
                · rw [e]; exact ⟨_, w _ _ r3, rfl⟩
                · rw [List.mem_singleton.mp e]; exact ⟨_, y4, rfl⟩
              have od : Same (drp [pk, pl] Hs) (drp [pk, pl] Ht) := drp_same w
              have oY := offs.trans od
              have eo2 : drp [pk, pl] (upd Ht pl (.lst (lxs ++ [.ref q5]))) = drp [pk, pl] Ht := drp_upd (by simp)
              refine ⟨_, _, _, _, _, late ++ [(p ++ [(r.lv, sd, r.turned)], m)], lxs ++ [.ref q5], KN2 ++ [(k, m)], _, rfl, same_upd_new (r1.trans w) npl, by rw [upd_ne newl]; exact w _ _ r2, by rw [upd_ne nekp]; exact w _ _ r3, upd_same, ?_, ?_, ?_, hV2⟩
              · rw [eo2]; exact m5.mono od
              · rw [eo2]
                refine (m6.mono lateAt_mono od).snoc ⟨q5, q4, pxs ++ [.ref q3], .ref nb, rfl, tup_off ml5 (SqT.of x5), SqL.of (off_get x4 nq4), ?_, hnv2.mono oY⟩
                refine (hst.mono stepAt_mono oY).snoc ⟨q3, .ref va, rfl, ?_, hlv.mono oY⟩
                have es : sideV r.side = .int (if sd then 1 else 0) := by rw [esd]; cases sd <;> rfl
                rw [es] at x3
                exact tup_off ml5 (SqT.of x3)
              · rw [eo2]; exact m7.mono itemAt_mono od
        · rw [decide_eq_false hway]
          refine iteF (iteF ?_)
          refine ⟨_, rfl, va, D.level, dx1, fs1, .ref wp, rfl, hLI.ins, T.levelC, T.lN "way", hLI.way, _, _, rfl, .inr hwp, _, rfl, _, _, rfl, rfl, false, ?_, ?_⟩
          · refine congrArg V.bl (decide_eq_false ?_)
            rw [hwl]; omega
          exact iteF (iteF ⟨_, _, _, _, _, late, lxs, KN2, kps2, rfl, g1, g2, g3, g4, g5, g6, g7, g8.far er hway⟩)
      · rintro σ Hy ⟨z2, z3, z4, z5, z6, late, lxs, KN2, kps2, rfl, g1, g2, g3, g4, g5, g6, g7, g8⟩
        rw [hwlen] at g8
        have hll : lxs.length = late.length := g6.1
        have hlsz := g8.size
        refine ⟨_, rfl, _, _, rfl, rfl, ⟨by decide, by decide⟩, ?_⟩
        refine ⟨_, rfl, pl, rfl, ⟨_, SqL.of g4⟩, fun D2 hD2 => ?_⟩
        have nD2 : H D2 = none := by
          cases q : H D2 with
          | none => rfl
          | some u => rw [g1 _ _ q] at hD2; cases hD2
        have neD : pk ≠ D2 := fun e => by rw [e, hD2] at g3; cases g3
        refine lc2_it (walk_list (K := K) (a := pl) (xs := lxs)) (fun i Hx => ∃ acc its', Same Hy Hx ∧ Hx D2 = some (.lst acc) ∧ AllR (ItemAt K D) (drp [pk, D2] Hx) acc its' ∧ (∀ it, it ∈ its' ↔ ∃ y ∈ late.take i, it.1 = y.1 ∧ RowOf L y.2 it.2) ∧ acc.length ≤ i * 1536) ⟨[], [], same_new hD2, upd_same, .nil, fun it => by simp, Nat.zero_le _⟩ (fun i Hx _ ⟨_, _, h, _⟩ => h.seq (SqL.of g4)) ?_ ?_
        · rintro i x Hx' Hx hi ⟨acc, its', sY, hD, hAc, hmem', hlen'⟩ ⟨rfl, ex⟩
          obtain ⟨y, ey, la, pp, pxs, nv, rfl, hSq, hpp, hst, hnv⟩ := g6.2 i x ex
          have back : Same (drp [pk, pl] Hy) Hx := drp_le.trans sY
          have hgy := g8.g y (List.mem_of_getElem? ey)
          have sHx := g1.trans sY
          refine ⟨la, _, rfl, tupS back hSq, rfl, _, _, rfl, _, _, rfl, rfl, rfl, ?_⟩
          refine ⟨_, rfl, a, D.search, dx, fs, v, rfl, sHx _ _ ha, T.searchC, T.searchN, hfs, _, rfl, ?_⟩
          refine ⟨v, nv, L, y.2, rfl, hL.mono sHx, ok, hnv.mono back, hgy.2.1, hgy.2.2, hgy.1.2.2, fun H4 p rxs rs1 s4 hp n0 hR hmem1 hl1 => ?_⟩
          have hml : ∀ l ∈ [pk, D2], ∃ o, Hx l = some o ∧ isTup o = false := fun l hl => by
            rcases List.mem_cons.mp hl with e | e
            · rw [e]; exact ⟨_, sY _ _ g3, rfl⟩
            · rw [List.mem_singleton.mp e]; exact ⟨_, hD, rfl⟩
          have hR4 : AllR (RowAt K D) (drp [pk, D2] H4) rxs rs1 := hR.mono (fun _ _ _ _ s h => h.mono s) (off_fsh hml)
          have npD : p ≠ D2 := fun e => by rw [e, hD] at n0; cases n0
          have hil : i < late.length := (List.getElem?_eq_some_iff.mp ey).1
          have hrl : rxs.length = rs1.length := hR.1
          refine ⟨p, rfl, ⟨_, SqL.of hp⟩, ?_⟩
          refine in_it (walk_list (K := K) (a := p) (xs := rxs)) (fun j' Hz => ∃ acc2 its2, Same Hy Hz ∧ Hz p = some (.lst rxs) ∧ Hz D2 = some (.lst acc2) ∧ AllR (ItemAt K D) (drp [pk, D2] Hz) acc2 its2 ∧ AllR (RowAt K D) (drp [pk, D2] Hz) rxs rs1 ∧ (∀ it, it ∈ its2 ↔ it ∈ its' ∨ ∃ r ∈ rs1.take j', it = (y.1, r)) ∧ acc2.length = acc.length + j')
            ⟨acc, its', sY.trans s4, hp, s4 _ _ hD, hAc.mono itemAt_mono (drp_same s4), hR4, fun it => by simp, rfl⟩ (fun j' Hz _ ⟨_, _, _, h, _⟩ => SqL.of h) ?_ ?_
          · rintro j' z Hz' Hz hj' ⟨acc2, its2, b1, b2, b3, b4, b5, b6, b7⟩ ⟨rfl, ez⟩
            obtain ⟨r, er, rp, vl, nv2, rfl, rSq, rlv, rnv⟩ := b5.2 j' z ez
            have backz : Same (drp [pk, pl] Hy) Hz := drp_le.trans b1
            refine ⟨rfl, _, rfl, _, rfl, rp, _, rfl, .inl (tupS drp_le rSq), by show 5 ≤ sizeLine; omega, fun q2 hq2 => ?_⟩
            have u1 := same_new (o := .tup [.ref pp, vl, sideV r.side, nv2, .bl r.turned]) hq2
            have hi6 : i * 1536 ≤ 186 * 1536 := Nat.mul_le_mul_right _ (by omega)
            have ml2 : ∀ l ∈ [pk, D2], ∃ o, (upd Hz q2 (.tup [.ref pp, vl, sideV r.side, nv2, .bl r.turned])) l = some o ∧ isTup o = false := fun l hl => by
              rcases List.mem_cons.mp hl with e | e
              · rw [e]; exact ⟨_, u1 _ _ (b1 _ _ g3), rfl⟩
              · rw [List.mem_singleton.mp e]; exact ⟨_, u1 _ _ b3, rfl⟩
            have b8 : Same (drp [pk, pl] Hy) (drp [pk, D2] (upd Hz q2 (.tup [.ref pp, vl, sideV r.side, nv2, .bl r.turned]))) := fun b u e => by
              have e1 := drp_le _ _ e
              have hb : b ∉ [pk, D2] := fun q => by
                rcases List.mem_cons.mp q with z | z
                · rw [z, drp_in (by simp)] at e; cases e
                · rw [List.mem_singleton.mp z, hD2] at e1; cases e1
              rw [drp_not hb]; exact u1 _ _ (b1 _ _ e1)
            refine ⟨acc2, u1 _ _ b3, by omega, acc2 ++ [.ref q2], its2 ++ [(y.1, r)], same_upd_new (b1.trans u1) hD2, by rw [upd_ne npD]; exact u1 _ _ b2, upd_same, ?_, by rw [drp_upd (by simp)]; exact b5.mono (fun _ _ _ _ s h => h.mono s) (drp_same u1), ?_, by simp; omega⟩
            · rw [drp_upd (by simp)]
              refine (b4.mono itemAt_mono (drp_same u1)).snoc ⟨q2, pp, pxs, vl, nv2, rfl, tup_off ml2 (SqT.of upd_same), b8.seq hpp, hst.mono stepAt_mono b8, rlv.mono (drp_same u1), rnv.mono (drp_same u1)⟩
            · intro it
              have et : rs1.take (j' + 1) = rs1.take j' ++ [r] := by rw [List.take_add_one, er]; rfl
              rw [List.mem_append, b6, et]
              constructor
              · rintro ((h | ⟨r', h1, h2⟩) | h)
                · exact .inl h
                · exact .inr ⟨r', List.mem_append_left _ h1, h2⟩
                · exact .inr ⟨r, by simp, List.mem_singleton.mp h⟩
              · rintro (h | ⟨r', h1, h2⟩)
                · exact .inl (.inl h)
                · rcases List.mem_append.mp h1 with h1 | h1
                  · exact .inl (.inr ⟨r', h1, h2⟩)
                  · rw [List.mem_singleton.mp h1] at h2
                    exact .inr (by rw [h2]; simp)
          · rintro Hz ⟨acc2, its2, b1, b2, b3, b4, b5, b6, b7⟩
            rw [hrl, List.take_length] at b6
            refine ⟨acc2, its2, b1, b3, b4, fun it => ?_, by omega⟩
            have et : late.take (i + 1) = late.take i ++ [y] := by rw [List.take_add_one, ey]; rfl
            rw [b6, hmem', et]
            constructor
            · rintro (⟨y', h1, h2⟩ | ⟨r, h1, h2⟩)
              · exact ⟨y', List.mem_append_left _ h1, h2⟩
              · exact ⟨y, by simp, by rw [h2], by rw [h2]; exact (hmem1 r).mp h1⟩
            · rintro ⟨y', h1, h2, h3⟩
              rcases List.mem_append.mp h1 with h1 | h1
              · exact .inl ⟨y', h1, h2, h3⟩
              · have e := List.mem_singleton.mp h1
                rw [e] at h2 h3
                exact .inr ⟨it.2, (hmem1 _).mpr h3, Prod.ext h2 rfl⟩
        · rintro Hx ⟨acc, its', sY, hD, hAc, hmem', hlen'⟩
          rw [hll, List.take_length] at hmem'
          have kk5 : HkKeys K (drp [pk] Hx) kps2 KN2 := g5.mono ((off_sub (ms := [pk]) fun b hb => by rw [List.mem_singleton.mp hb]; simp).trans (drp_same sY))
          have it5 : AllR (ItemAt K D) (drp [pk] Hx) acc its' := hAc.mono itemAt_mono (off_sub fun b hb => by rw [List.mem_singleton.mp hb]; simp)
          cases k with
          | zero =>
            exact ⟨0, by omega, _, _, _, _, _, _, D2, acc, kps2, 0, rfl, g1.trans sY, sY _ _ g3, hD, nD2, Ne.symm neD, .inr ⟨rfl, rfl, g8.last⟩⟩
          | succ k =>
            have ediv : ((2 ^ (k + 1) : Nat) : Int) / 2 = ((2 ^ k : Nat) : Int) := by rw [Nat.pow_succ]; omega
            refine ⟨k + 1, by omega, _, _, _, _, _, _, D2, acc, kps2, ((2 ^ k : Nat) : Int), by rw [← ediv]; rfl, g1.trans sY, sY _ _ g3, hD, nD2, Ne.symm neD, .inl ⟨k, KN2, its', rfl, rfl, by omega, kk5, it5, g8.leave (by omega) hmem'⟩⟩
end
end K6
set_option Elab.async false
set_option linter.all false
set_option maxRecDepth 100000
set_option maxHeartbeats 4000000
namespace K6
open PySem PySem.Spec PyProof.Rows L2
section
variable {P : Program} {w : World} {K : PySem.W.Frag} {mg : Str → Option Value} {base : Heap} {D : Ads}
def spLeastRow (K : PySem.W.Frag) (D : Ads) : Sp := fun vs H Q _ => ∃ (v : V) (ra : Addr) (L : Looms) (S : List Node) (ys : List V) (rs : List PRow), vs = [v, .ref ra] ∧ LoomsAt K H v L ∧ LOk L ∧ InsideL L ∧
  SqL K H ra ys ∧ AllR (RowAt K D) H ys rs ∧ (∀ r, r ∈ rs ↔ ∃ n ∈ S, RowOf L n r) ∧ (∀ n ∈ S, Good n ∧ NodeOk L n) ∧ rs.length ≤ 8000 ∧ (∃ n ∈ S, ∃ d, RB L d n) ∧
  ∀ H' q row j, Same H H' → SqL K H' q (row.map V.int) → j ≤ 21 → (∃ n ∈ S, BadRow L j n row) → (∀ i, i < j → ∀ n ∈ S, ¬ Fails L i n) → Q (.ref q) H'
theorem ok_leastRow (U : Txu w K mg D) : FnOk P w K mg base CX0 12 (D.d 54).f (D.d 54).fd ["looms", "rows"] (spLeastRow K D) := by
  have T := U.T
  refine T.w54.F.ok scLeastRow (fun vs H Q E h => ?_) (fun cdv A outer s H vs Q E hr h => ?_)
  · obtain ⟨_, _, _, _, _, _, rfl, _⟩ := h
    rfl
  · obtain ⟨v, ra, L, S, ys, rs, rfl, hL, ok, hI, hra, hx, hmem, hS, hlen, hbad, k⟩ := h
    refine ⟨_, (pss_cons (ps_asg (pe_tup (pa_cons pe_int (pa_cons pe_non pa_nil))) (pg_tup (by rfl) (pgs_cons (pg_name (i := 2) scLeastRow.nd rfl (by first | exact Or.inl rfl | exact Or.inr rfl)) (pgs_cons (pg_name (i := 3) scLeastRow.nd rfl (by first | exact Or.inl rfl | exact Or.inr rfl)) pgs_nil))))
      (pss_cons (ps_while PassesOwn.never (pt_cmp (pc_isN (pv 3)) rfl) (pss_cons (ps_aug (i := 2) scLeastRow.nd rfl (by first | exact Or.inl rfl | exact Or.inr rfl) pe_int ip_mul)
      (pss_one (ps_set (i := 3) scLeastRow.nd rfl (by first | exact Or.inl rfl | exact Or.inr rfl) (pe_meth (pe_make T.w530.M (ok_searchInit T) (hr.mono (by decide)) (by rfl) T.w530.m T.w530.B .nil pass0 (pa_cons (pv 0) pa_nil)) T.searchC T.w531.M (ok_searchFound U) (hr.mono (by decide)) T.w531.B .nil pass0 (pa_cons (pv 1) (pa_cons (pv 2) pa_nil)))))))
      (pss_one (ps_ret (pv 3))))), ?_⟩
    obtain ⟨n0, hn0, d0, hd0⟩ := hbad
    obtain ⟨e0, he0, hb0⟩ := rb_short hI.all ok.wf (hS n0 hn0).1 hd0
    have hf0 := fails_rb ok.wf (hS n0 hn0).1 hb0
    refine ⟨small2, fun q hq => ⟨q, _, rfl, SqT.of upd_same, rfl, _, _, rfl, _, _, rfl, rfl, ?_⟩⟩
    have s0 := same_new (o := .tup [.int 1, .non]) hq
    refine st_eq (σ' := [some v, some (.ref ra), some (.int ((2 ^ 0 : Nat) : Int)), some .non]) (H' := upd H q (.tup [.int 1, .non])) rfl rfl ?_
    generalize upd H q (.tup [.int 1, .non]) = H1 at s0 ⊢
    refine ⟨fun m σ Hx => Same H Hx ∧ ((∃ i, σ = [some v, some (.ref ra), some (.int ((2 ^ i : Nat) : Int)), some .non] ∧ m = 21 - i ∧ ∀ i', i' ≤ i → ∀ n ∈ S, ¬ Fails L i' n) ∨
      ∃ i q row, σ = [some v, some (.ref ra), some (.int ((2 ^ i : Nat) : Int)), some (.ref q)] ∧ m = 0 ∧ SqL K Hx q (row.map V.int) ∧ i ≤ 21 ∧ (∃ n ∈ S, BadRow L i n row) ∧ ∀ i', i' < i → ∀ n ∈ S, ¬ Fails L i' n),
      ⟨_, s0, .inl ⟨0, rfl, rfl, fun i' h n _ q => by
        have : i' = 0 := by omega
        subst this
        exact q⟩⟩, ?_⟩
    rintro m σ Hx ⟨sx, ⟨i, rfl, rfl, hno⟩ | ⟨i, q, row, rfl, rfl, h1, h2, h3, h4⟩⟩
    · have hi : i ≤ 20 := by
        refine Classical.byContradiction fun z => hno (e0 + 3) (by omega) n0 hn0 hf0
      refine ⟨_, rfl, _, rfl, iteT ?_⟩
      refine ⟨fun σ' Hx => Same H Hx ∧ ((σ' = [some v, some (.ref ra), some (.int ((2 ^ (i + 1) : Nat) : Int)), some .non] ∧ ∀ i', i' ≤ i + 1 → ∀ n ∈ S, ¬ Fails L i' n) ∨
        ∃ q row, σ' = [some v, some (.ref ra), some (.int ((2 ^ (i + 1) : Nat) : Int)), some (.ref q)] ∧ SqL K Hx q (row.map V.int) ∧ (∃ n ∈ S, BadRow L (i + 1) n row) ∧ ∀ i', i' < i + 1 → ∀ n ∈ S, ¬ Fails L i' n), ?_, ?_⟩
      · rintro σ' H' ⟨sy, ⟨rfl, h⟩ | ⟨q, row, rfl, h1, h2, h3⟩⟩
        · exact ⟨21 - (i + 1), by omega, sy, .inl ⟨i + 1, rfl, rfl, h⟩⟩
        · exact ⟨0, by omega, sy, .inr ⟨i + 1, q, row, rfl, rfl, h1, by omega, h2, h3⟩⟩
      have emul : ((2 ^ i : Nat) : Int) * 2 = ((2 ^ (i + 1) : Nat) : Int) := by rw [Nat.pow_succ]; omega
      refine ⟨_, rfl, _, _, rfl, rfl, .inr ⟨by decide, by decide⟩, ?_⟩
      refine st_eq (σ' := [some v, some (.ref ra), some (.int ((2 ^ (i + 1) : Nat) : Int)), some .non]) (H' := Hx) (by rw [← emul]; rfl) rfl ?_
      refine ⟨_, rfl, fun x dx hx0 hdx hne => ?_⟩
      have t1 : Same Hx (upd (upd Hx dx (.own x)) x (.ins D.search dx [])) := (same_new hdx).trans (same_new (by rw [upd_ne (Ne.symm hne)]; exact hx0))
      refine ⟨x, dx, v, rfl, upd_same, rfl, ?_⟩
      have e2 : upd (upd (upd Hx dx (.own x)) x (.ins D.search dx [])) x (.ins D.search dx (putF "looms" v [])) = upd (upd Hx dx (.own x)) x (.ins D.search dx (putF "looms" v [])) := upd_upd
      have t2 : Same Hx (upd (upd Hx dx (.own x)) x (.ins D.search dx (putF "looms" v []))) := (same_new hdx).trans (same_new (by rw [upd_ne (Ne.symm hne)]; exact hx0))
      have sz := sx.trans t2
      refine ⟨x, dx, putF "looms" v [], rfl, upd_same, by rw [lk_ne (by decide)]; rfl, _, rfl, _, rfl, ?_⟩
      rw [e2]
      refine ⟨x, dx, ra, putF "looms" v [], v, L, S, ys, rs, i, rfl, upd_same, lk_eq, hL.mono sz, ok, hI, sz.seq hra, hx.mono (fun _ _ _ _ s h => h.mono s) sz, hmem, hS, hi, hlen, fun hnf H' s' => ?_, fun H' q row s' hq hb => ?_⟩
      · refine gn_st (σ' := [some v, some (.ref ra), some (.int ((2 ^ (i + 1) : Nat) : Int)), some .non]) rfl ⟨sz.trans s', .inl ⟨rfl, fun i' hi' n hn => ?_⟩⟩
        by_cases e : i' = i + 1
        · rw [e]; exact hnf n hn
        · exact hno i' (by omega) n hn
      · exact gn_st (σ' := [some v, some (.ref ra), some (.int ((2 ^ (i + 1) : Nat) : Int)), some (.ref q)]) rfl ⟨sz.trans s', .inr ⟨q, row, rfl, hq, hb, fun i' hi' n hn => hno i' (by omega) n hn⟩⟩
    · refine ⟨_, rfl, _, rfl, iteF ?_⟩
      exact ⟨_, rfl, k _ q row i sx h1 h2 h3 h4⟩
end
end K6
set_option Elab.async false
set_option linter.all false
set_option maxRecDepth 100000
set_option maxHeartbeats 4000000
namespace K6
open PySem PySem.Spec PyProof.Rows L2
/-- a comprehension over a list or a tuple -/
theorem tLc_seq {K : PySem.W.Frag} {ti te : TE} {g : TG} {vs : List Nat} {σ : L2.St} {H : Hp} {Q : VK} {wa : Addr} {xs : List V} (R : Nat → V → Hp → Prop) (hti : ∀ G : VK, G (.ref wa) H → ti σ H G) (hS : SqA K H wa xs) (hn : xs.length ≤ sizeLine) (hR : ∀ i y Ha Hb, Same Ha Hb → R i y Ha → R i y Hb)
    (hs : ∀ i x Ha (Kk : V → Hp → Prop), xs[i]? = some x → Same H Ha → (∀ y H4, Same Ha H4 → R i y (fsh Ha H4) → Kk y H4) → g x (wipe σ vs) Ha fun σ2 H2 => wipe σ2 vs = wipe σ vs ∧ te σ2 H2 Kk)
    (hd : ∀ D H' ys, H D = none → Same H H' → H' D = some (.lst ys) → ys.length = xs.length → (∀ (i : Nat) (y : V), ys[i]? = some y → R i y (own [D] H H')) → Q (.ref D) H') : tLc (iSeq K ti) g tYes te vs σ H Q := by
  refine hti _ ⟨wa, rfl, ?_⟩
  rcases hS with hS | hS
  · refine .inl ⟨⟨_, hS⟩, fun D hD => ?_⟩
    refine lc_map (walk_list (K := K) (a := wa) (xs := xs)) R hD hn hR (fun H' s => s.seq hS) ?_ (fun H' ys s1 e1 l1 r1 => hd D H' ys hD s1 e1 l1 r1)
    rintro i x Ha Hb Kk hi s1 ⟨rfl, ex⟩ kk
    exact hs i x _ Kk ex s1 kk
  · refine .inr ⟨⟨_, hS⟩, fun D hD => ?_⟩
    refine lc_map (walk_tup (K := K) (a := wa) (xs := xs)) R hD hn hR (fun H' s => tupS s hS) ?_ (fun H' ys s1 e1 l1 r1 => hd D H' ys hD s1 e1 l1 r1)
    rintro i x Ha Hb Kk hi s1 ⟨rfl, ex⟩ kk
    exact hs i x _ Kk ex s1 kk
section
variable {P : Program} {w : World} {K : PySem.W.Frag} {mg : Str → Option Value} {base : Heap} {D : Ads}
/-- the starting nodes -/
def stN (nm : Nat) (up : Bool) (ws : List (List Int)) : List Node := ws.map fun wd => ⟨nm, up, wd⟩
def spJudge (K : PySem.W.Frag) (D : Ads) : Sp := fun vs H Q E => ∃ (v : V) (L : Looms) (nm : Nat) (wa : Addr) (xs : List V) (ws : List (List Int)) (up : Bool), vs = [v, .str (nmS nm), .ref wa, .str (ordS up)] ∧ LoomsAt K H v L ∧ LOk L ∧ nm < L.length ∧ SqA K H wa xs ∧ DpAll K H xs (ws.map wD) ∧ WordsOk ws ∧ ws.length ≤ 4 ∧
  (¬ InsideL L → Raised D H E) ∧
  (InsideL L → ∀ H' a dx p nxs F, Same H H' → H' a = some (.ins D.kept dx (putF "nodes" (.ref p) [])) → H' p = some (.lst nxs) → AllR (NodeR K) H' nxs F → (∀ n ∈ stN nm up ws, n ∈ F) → Closed L F → (∀ n ∈ F, From L (stN nm up ws) n ∧ Good n ∧ NodeOk L n) → F.Nodup → F.length ≤ 186 → Q (.ref a) H') ∧
  (InsideL L → ∀ H' a dx p row j, Same H H' → H' a = some (.ins D.broken dx (putF "row" (.ref p) [])) → H' p = some (.lst (row.map V.int)) → j ≤ 21 → (∃ n ∈ stN nm up ws, BadRow L j n row) → (∀ i, i < j → ∀ n ∈ stN nm up ws, ¬ Fails L i n) → Q (.ref a) H')
theorem ok_judgeBlocks (U : Txu w K mg D) : FnOk P w K mg base (L2N.CX P w) 14 (D.d 56).f (D.d 56).fd ["looms", "name", "words", "order"] (spJudge K D) := by
  have T := U.T
  refine T.w56.F.okN scJudgeBlocks (fun vs H Q E h => ?_) (fun cdv A outer s H vs Q E hr h => ?_)
  · obtain ⟨_, _, _, _, _, _, _, rfl, _⟩ := h
    rfl
  · obtain ⟨v, L, nm, wa, xs, ws, up, rfl, hL, ok, hnm, hwa, hx, hW, h4, kE, kK, kB⟩ := h
    refine ⟨_, (pss_cons (ps_expr (pe_call (ok_checkBlocks U) (hr.mono (by decide)) (by rfl) T.w49.m T.w49.F.kp T.w49.B .nil (L2N.passes_call (L2N.takes_of rfl rfl rfl rfl) (fun _ _ _ _ h => h)) (pa_cons (pv 0) (pa_cons (pv 1) (pa_cons (pv 2) (pa_cons (pv 3) pa_nil))))))
      (pss_cons (ps_set (i := 4) scJudgeBlocks.nd rfl (by first | exact Or.inl rfl | exact Or.inr rfl) (pe_call (ok_closedFrom U) (hr.mono (by decide)) (by rfl) T.w50.m T.w50.F.kp T.w50.B .nil pass0 (pa_cons (pv 0) (pa_cons (pe_lc (own := [("word", 5)]) (by rfl) scJudgeBlocks.nd (pi_seq (pv 2)) (blkOk_by (own := [("word", 5)]) (N := ["looms", "name", "words", "order", "found", "word"]) (sc := defScope sJudgeBlocks) (by decide +kernel)) (fun _ _ _ _ _ => (pg_name (i := 5) scJudgeBlocks.nd rfl (by first | exact Or.inl rfl | exact Or.inr rfl))) (fun _ _ _ _ _ => pts_nil) (fun _ _ _ _ _ => (pe_tup (pa_cons (pv 1) (pa_cons (pv 3) (pa_cons (pv 5) pa_nil)))))) pa_nil))))
      (pss_one (ps_ret (pe_ifExp (pt_cmp (pc_notN (pv 4)) rfl) (pe_make T.w460.M (ok_keptInit T) (hr.mono (by decide)) (by rfl) T.w460.m T.w460.B .nil pass0 (pa_cons (pe_callTy (call_list_nd rfl) (by rfl) T.list boot_list (pa_cons (pv 4) pa_nil)) pa_nil)) (pe_make T.w470.M (ok_brokenInit T) (hr.mono (by decide)) (by rfl) T.w470.m T.w470.B .nil pass0 (pa_cons (pe_call (ok_leastRow U) (hr.mono (by decide)) (by rfl) T.w54.m T.w54.F.kp T.w54.B .nil pass0 (pa_cons (pv 0) (pa_cons (pe_call (ok_firstSteps U) (hr.mono (by decide)) (by rfl) T.w55.m T.w55.F.kp T.w55.B .nil pass0 (pa_cons (pv 0) (pa_cons (pv 1) (pa_cons (pv 2) (pa_cons (pv 3) pa_nil))))) pa_nil))) pa_nil))))))), ?_⟩
    have hlx : xs.length = ws.length := by rw [hx.length]; simp
    have zl : sizeLine = 16777216 := sizeLine_eq
    refine ⟨_, rfl, _, rfl, _, rfl, _, rfl, v, L, nm, wa, xs, ws, up, rfl, hL, ok, hnm, hwa, hx, hW, h4, fun hi H1 s1 => ?_, kE⟩
    have kK := kK hi
    have kB := kB hi
    have hnm3 : nm < 3 := by have := ok.three; omega
    refine ⟨_, rfl, ?_⟩
    refine tLc_seq (fun i y Hz => ∃ n, (stN nm up ws)[i]? = some n ∧ NodeR K Hz y n) (fun G q => ⟨_, rfl, q⟩) (seqA_mono s1 hwa) (by omega) (fun i y Ha Hb s ⟨n, e, h⟩ => ⟨n, e, h.mono s⟩) ?_ ?_
    · intro i x Ha Kk ex sa kk
      obtain ⟨d, ed, hd⟩ := hx.getV ex
      rw [List.getElem?_map] at ed
      obtain ⟨wd, ew, rfl⟩ := Option.map_eq_some_iff.mp ed
      refine ⟨rfl, _, rfl, _, rfl, _, rfl, small3, fun q hq => ?_⟩
      have sq := same_new (o := .tup [.str (nmS nm), .str (ordS up), x]) hq
      refine kk _ _ sq ⟨⟨nm, up, wd⟩, by unfold stN; rw [List.getElem?_map, ew]; rfl, ?_⟩
      refine dp_fsh sq (noL_node _) ?_
      exact .tup (SqT.of upd_same) (.cons (.str _) (.cons (.str _) (.cons (hd.mono ((s1.trans sa).trans sq)) .nil)))
    · intro Dd H2 nds hDd s2 hD hl hr
      have hS : ∀ n ∈ stN nm up ws, Good n ∧ NodeOk L n := fun n hn => by
        obtain ⟨wd, hwd, rfl⟩ := List.mem_map.mp hn
        obtain ⟨q1, q2, q3⟩ := hW wd hwd
        exact ⟨⟨hnm3, q1, q3⟩, hnm, by show 0 < wd.length; omega⟩
      have hlS : (stN nm up ws).length = ws.length := by unfold stN; simp
      have hA : AllR (NodeR K) H2 nds (stN nm up ws) := ⟨by rw [hl, hlx, hlS], fun i y e => by
        obtain ⟨n, e1, e2⟩ := hr i y e
        exact ⟨n, e1, e2.mono own_le⟩⟩
      have sH := s1.trans s2
      refine ⟨v, L, Dd, nds, stN nm up ws, rfl, hL.mono sH, ok, SqL.of hD, hA, hS, by omega, fun hb H3 s3 => ?_, fun H3 f ps F s3 nf hf hk hin hcl hfr hnd hsz => ?_⟩
      · -- a row that breaks
        have sH3 := sH.trans s3
        refine gn_st (σ' := [some v, some (.str (nmS nm)), some (.ref wa), some (.str (ordS up)), some .non, none]) rfl ?_
        refine ⟨_, rfl, _, rfl, iteF ?_⟩
        refine ⟨_, rfl, _, rfl, _, rfl, _, rfl, _, rfl, v, L, nm, up, wa, xs, ws, rfl, hL.mono sH3, ok, hnm, seqA_mono sH3 hwa, hx.mono sH3, hW, h4, fun H4 p ys rs s4 hp np hR hmem hlen => ?_⟩
        have sH4 := sH3.trans s4
        refine ⟨v, p, L, stN nm up ws, ys, rs, rfl, hL.mono sH4, ok, hi, SqL.of hp, hR.mono (fun _ _ _ _ s h => h.mono s) fsh_le, fun r => ?_, hS, hlen, hb, fun H5 q row j s5 hq hj hbr hno => ?_⟩
        · rw [hmem]
          constructor
          · rintro ⟨wd, h1, h2⟩
            exact ⟨_, List.mem_map.mpr ⟨wd, h1, rfl⟩, h2⟩
          · rintro ⟨n, h1, h2⟩
            obtain ⟨wd, h3, rfl⟩ := List.mem_map.mp h1
            exact ⟨wd, h3, h2⟩
        · have sH5 := sH4.trans s5
          intro x dx hx0 hdx hne
          have t1 : Same H5 (upd (upd H5 dx (.own x)) x (.ins D.broken dx [])) := (same_new hdx).trans (same_new (by rw [upd_ne (Ne.symm hne)]; exact hx0))
          refine ⟨x, dx, q, row.map V.int, rfl, upd_same, t1.seq hq, fun p2 hp2 => ⟨rfl, ?_⟩⟩
          have n2 : p2 ≠ x := fun e => by rw [e, upd_same] at hp2; cases hp2
          refine kB _ x dx p2 row j ?_ upd_same (by rw [upd_ne n2]; exact upd_same) hj hbr hno
          refine same_upd_new (sH5.trans (t1.trans (same_new hp2))) ?_
          cases z : H x with
          | none => rfl
          | some u => rw [sH5 _ _ z] at hx0; cases hx0
      · -- kept
        have sH3 := sH.trans s3
        refine gn_st (σ' := [some v, some (.str (nmS nm)), some (.ref wa), some (.str (ordS up)), some (.ref f), none]) rfl ?_
        refine ⟨_, rfl, _, rfl, iteT ?_⟩
        refine ⟨_, rfl, f, ps, rfl, hf, fun q hq => ?_⟩
        intro x dx hx0 hdx hne
        have t0 := same_new (o := .lst (ps.map fun (z : NestedKey × Addr) => V.ref z.2)) hq
        have hq1 : (upd H3 q (.lst (ps.map fun (z : NestedKey × Addr) => V.ref z.2))) q = some (.lst (ps.map fun (z : NestedKey × Addr) => V.ref z.2)) := upd_same
        have hkq := hk.mono t0
        have sq := sH3.trans t0
        generalize upd H3 q (.lst (ps.map fun (z : NestedKey × Addr) => V.ref z.2)) = H5 at t0 hq1 hkq sq hx0 hdx ⊢
        have t1 : Same H5 (upd (upd H5 dx (.own x)) x (.ins D.kept dx [])) := (same_new hdx).trans (same_new (by rw [upd_ne (Ne.symm hne)]; exact hx0))
        refine ⟨x, dx, q, ps.map fun (z : NestedKey × Addr) => V.ref z.2, rfl, upd_same, SqL.of (t1 _ _ hq1), fun p2 hp2 => ⟨rfl, ?_⟩⟩
        have n2 : p2 ≠ x := fun e => by rw [e, upd_same] at hp2; cases hp2
        have nx : H5 x = none := hx0
        have t2 : Same H5 (upd (upd (upd (upd H5 dx (.own x)) x (.ins D.kept dx [])) p2 (.lst (ps.map fun (z : NestedKey × Addr) => V.ref z.2))) x (.ins D.kept dx (putF "nodes" (.ref p2) []))) := same_upd_new (t1.trans (same_new hp2)) nx
        exact kK _ x dx p2 (ps.map fun (z : NestedKey × Addr) => V.ref z.2) F (sq.trans t2) upd_same (by rw [upd_ne n2]; exact upd_same) ((hkq.mono t2).1) hin hcl hfr hnd hsz
end
end K6
set_option Elab.async false
set_option linter.all false
set_option maxRecDepth 100000
set_option maxHeartbeats 4000000
namespace K6
open PySem PySem.Spec PyProof.Rows L2
theorem bools_of {α : Type} {f : α → Bool} : ∀ {ys : List V} {ms : List α}, ys.length = ms.length → (∀ (i : Nat) (y : V), ys[i]? = some y → ∃ m, ms[i]? = some m ∧ y = .bl (f m)) → ys = (ms.map f).map V.bl
  | [], [], _, _ => rfl
  | [], _ :: _, h, _ => by simp at h
  | _ :: _, [], h, _ => by simp at h
  | y :: ys, m :: ms, h, k => by
    obtain ⟨m', e1, e2⟩ := k 0 y rfl
    cases Option.some.inj e1
    rw [List.map_cons, List.map_cons, ← bools_of (ys := ys) (ms := ms) (by simpa using h) (fun i z e => k (i + 1) z (by simpa using e)), e2]
theorem all_map_id {α : Type} {f : α → Bool} {ms : List α} : (ms.map f).all id = true ↔ ∀ m ∈ ms, f m = true := by
  rw [List.all_map, List.all_eq_true]; rfl
section
variable {P : Program} {w : World} {K : PySem.W.Frag} {mg : Str → Option Value} {base : Heap} {D : Ads}
def StartAt (K : PySem.W.Frag) (H : Hp) (v : V) (n : Node) : Prop := ∃ (a : Addr) (v0 v1 v2 v3 : V), v = .ref a ∧ SqT K H a [v0, v1, v2, v3] ∧ Dp K H v2 (nodeD n)
def spIsClosed (K : PySem.W.Frag) (D : Ads) : Sp := fun vs H Q _ => ∃ (a dx p ra : Addr) (v : V) (fs : List (Str × V)) (nxs rxs : List V) (L : Looms) (F ms : List Node), vs = [.ref a, v, .ref ra] ∧ H a = some (.ins D.kept dx fs) ∧ fs.lookup ("nodes" : Str) = some (.ref p) ∧ SqL K H p nxs ∧ AllR (NodeR K) H nxs F ∧
  LoomsAt K H v L ∧ LOk L ∧ (∀ n ∈ F, Good n ∧ NodeOk L n) ∧ F.length ≤ 186 ∧ SqL K H ra rxs ∧ AllR (StartAt K) H rxs ms ∧ (∀ m ∈ ms, m.nm < 3) ∧ ms.length ≤ 4 ∧ (∀ n ∈ F, ∀ r, RowOf L n r → ∃ m, r.node = some m) ∧
  ∀ b, (b = true ↔ (∀ m ∈ ms, m ∈ F) ∧ Closed L F) → Ret H Q (.bl b)
theorem ok_keptIsClosed (U : Txu w K mg D) : FnOk P w K mg base CX0 12 (D.d 463).f (D.d 463).fd ["self", "looms", "rows"] (spIsClosed K D) := by
  have T := U.T
  refine T.w463.F.ok scKeptIsClosed (fun vs H Q E h => ?_) (fun cdv A outer s H vs Q E hr h => ?_)
  · obtain ⟨_, _, _, _, _, _, _, _, _, _, _, rfl, _⟩ := h
    rfl
  · obtain ⟨a, dx, p, ra, v, fs, nxs, rxs, L, F, ms, rfl, ha, hfs, hp, hF, hL, ok, hg, h186, hra, hms, hm3, hm4, hsome, k⟩ := h
    refine ⟨_, (pss_cons (ps_set (i := 3) scKeptIsClosed.nd rfl (by first | exact Or.inl rfl | exact Or.inr rfl) (pe_ndc (own := [("node", 4)]) (lt64 hr.units) (by rfl) scKeptIsClosed.nd (pi_list (pe_fld (pv 0) (by rfl))) (blkOk_by (own := [("node", 4)]) (N := ["self", "looms", "rows", "known", "node", "row", "name", "order", "word"]) (sc := defScope sKeptIsClosed) (by decide +kernel)) (fun _ _ _ _ _ => (pg_name (i := 4) scKeptIsClosed.nd rfl (by first | exact Or.inl rfl | exact Or.inr rfl))) (fun _ _ _ _ _ => pts_nil) (fun _ _ _ _ _ => (pv 4)) (fun _ _ _ _ _ => pe_bl)))
      (pss_cons (ps_if (pt_not (pt_val (pe_callB (cr_all rfl) (by rfl) T.all boot_all (pa_cons (pe_lc (own := [("name", 6), ("order", 7), ("word", 8)]) (by rfl) scKeptIsClosed.nd (pi_list (pe_fld (pv 0) (by rfl))) (blkOk_by (own := [("name", 6), ("order", 7), ("word", 8)]) (N := ["self", "looms", "rows", "known", "node", "row", "name", "order", "word"]) (sc := defScope sKeptIsClosed) (by decide +kernel)) (fun _ _ _ _ _ => (pg_tupK (n := 3) K (by rfl) (by rfl) (pgs_cons (pg_name (i := 6) scKeptIsClosed.nd rfl (by first | exact Or.inl rfl | exact Or.inr rfl)) (pgs_cons (pg_name (i := 7) scKeptIsClosed.nd rfl (by first | exact Or.inl rfl | exact Or.inr rfl)) (pgs_cons (pg_name (i := 8) scKeptIsClosed.nd rfl (by first | exact Or.inl rfl | exact Or.inr rfl)) pgs_nil))))) (fun _ _ _ _ _ => pts_nil) (fun _ _ _ _ _ => (pe_and (pe_cmp (pc_din (hu_of hr) (pv 6) (pv 1)) (by rfl)) (pe_and (pe_cmpR (op_in_seqK K (by rfl)) (pv 7) (pe_glob (v := .ref D.orders) (by rfl) T.ordersM rfl) (by rfl)) (pe_one (pe_call (ok_isWord T) (hr.mono (by decide)) (by rfl) T.w40.m T.w40.F.kp T.w40.B .nil pass0 (pa_cons (pv 8) pa_nil))))))) pa_nil)))) (pss_one (ps_ret pe_bl)) pss_nil)
      (pss_cons (ps_if (pt_not (pt_val (pe_callB (cr_all rfl) (by rfl) T.all boot_all (pa_cons (pe_lc (own := [("row", 5)]) (by rfl) scKeptIsClosed.nd (pi_list (pv 2)) (blkOk_by (own := [("row", 5)]) (N := ["self", "looms", "rows", "known", "node", "row", "name", "order", "word"]) (sc := defScope sKeptIsClosed) (by decide +kernel)) (fun _ _ _ _ _ => (pg_name (i := 5) scKeptIsClosed.nd rfl (by first | exact Or.inl rfl | exact Or.inr rfl))) (fun _ _ _ _ _ => pts_nil) (fun _ _ _ _ _ => (pe_cmp (pc_ndinK K w (by rfl) (by rfl) (lt64 hr.units) (pe_ix (ix_tupK K (by rfl)) (pv 5) pe_int (fun _ _ => rfl)) (pv 3)) (by rfl)))) pa_nil)))) (pss_one (ps_ret pe_bl)) pss_nil)
      (pss_one (ps_ret (pe_callB (cr_all rfl) (by rfl) T.all boot_all (pa_cons (pe_lc2 (own := [("node", 4), ("row", 5)]) (vs1 := [5]) (by rfl) scKeptIsClosed.nd (pi_list (pe_fld (pv 0) (by rfl))) (blkOk_by (own := [("node", 4), ("row", 5)]) (N := ["self", "looms", "rows", "known", "node", "row", "name", "order", "word"]) (sc := defScope sKeptIsClosed) (by decide +kernel)) (by decide) (fun _ _ _ _ _ => (pg_name (i := 4) scKeptIsClosed.nd rfl (by first | exact Or.inl rfl | exact Or.inr rfl))) (fun _ _ _ _ _ => pts_nil) (fun _ _ _ _ _ => (pi_listK K (by rfl) (pe_call (ok_stepsOf U) (hr.mono (by decide)) (by rfl) T.w44.m T.w44.F.kp T.w44.B .nil pass0 (pa_cons (pv 1) (pa_cons (pv 4) pa_nil))))) (fun _ _ _ _ _ => (pg_name (i := 5) scKeptIsClosed.nd rfl (by first | exact Or.inl rfl | exact Or.inr rfl))) (fun _ _ _ _ _ => pts_nil) (fun _ _ _ _ _ => (pe_cmp (pc_ndinK K w (by rfl) (by rfl) (lt64 hr.units) (pe_ix (ix_tupK K (by rfl)) (pv 5) pe_int (fun _ _ => rfl)) (pv 3)) (by rfl)))) pa_nil))))))), ?_⟩
    have zl : sizeLine = 16777216 := sizeLine_eq
    have hF3 : ∀ n ∈ F, n.nm < 3 := fun n hn => (hg n hn).1.1
    have hlF : nxs.length = F.length := hF.1
    have fld : ∀ {Hz} {G : VK}, Same H Hz → G (.ref p) Hz → tFld K (tVar 0) "nodes" [some (V.ref a), some v, some (.ref ra), none, none, none, none, none, none] Hz G := fun s q => ⟨_, rfl, a, D.kept, dx, fs, .ref p, rfl, s _ _ ha, T.keptC, T.keptN, hfs, q⟩
    -- known
    refine ⟨_, rfl, a, D.kept, dx, fs, .ref p, rfl, ha, T.keptC, T.keptN, hfs, p, rfl, ⟨_, hp⟩, fun pf hpf => ?_⟩
    refine nd_it (walk_list (K := K) (a := p) (xs := nxs)) (fun i Hx => ∃ ps, Same H Hx ∧ Hx pf = some (NdO w pf ps) ∧ NdKeys K (drp [pf] Hx) ps ((F.take i).foldl addN [])) ⟨[], same_new hpf, upd_same, .nil, rfl⟩ (fun i Hx _ ⟨_, h, _⟩ => h.seq hp) ?_ ?_
    · rintro i x Hx Hy hi ⟨ps, sH, hD, hk⟩ ⟨rfl, ex⟩
      obtain ⟨n, en, hnd⟩ := hF.2 i x ex
      obtain ⟨b, _, rfl, _⟩ := node_get hnd
      have hl : ∀ l ∈ [pf], ∃ o, Hy l = some o ∧ isTup o = false := fun l hl => by
        rw [List.mem_singleton.mp hl]; exact ⟨_, hD, rfl⟩
      have hb2 : Dp K (drp [pf] Hy) (.ref b) (nodeD n) := dp_off hl (noL_node n) (hnd.mono sH)
      have hF3' : ∀ m ∈ (F.take i).foldl addN [], m.nm < 3 := fun m hm => hF3 m (by
        rcases mem_addNs.mp hm with q | q
        · simp at q
        · exact List.mem_of_mem_take q)
      refine ⟨rfl, _, rfl, ps, nK n, b, rfl, rfl, hD, (hk.mono drp_le).keyed, key_node (hnd.mono sH), ?_, _, same_upd_new sH hpf, upd_same, ?_⟩
      · have h1 := hk.len
        have h2 := addNs_len (l := F.take i) (F := [])
        have h3 : (F.take i).length ≤ F.length := by rw [List.length_take]; omega
        have h4 : ([] : List Node).length = 0 := rfl
        omega
      · rw [drp_upd (by simp), List.take_add_one, en, List.foldl_append]
        exact hk.add hF3' (hF3 n (List.mem_of_getElem? en)) hb2
    rintro Hx ⟨ps, sH, hD, hk0⟩
    rw [hlF, List.take_length] at hk0
    have hk : NdKeys K Hx ps (F.foldl addN []) := hk0.mono drp_le
    have hmF : ∀ n, n ∈ F.foldl addN [] ↔ n ∈ F := fun n => by rw [mem_addNs]; simp
    have hkF3 : ∀ n ∈ F.foldl addN [], n.nm < 3 := fun n hn => hF3 n ((hmF n).mp hn)
    have has : ∀ {m : Node}, m.nm < 3 → hasN ps (nK m) = decide (m ∈ F) := fun {m} hm => by rw [hk.has hkF3 hm]; exact decide_eq_decide.mpr (hmF m)
    refine gn_st (σ' := [some (V.ref a), some v, some (.ref ra), some (.ref pf), none, none, none, none, none]) rfl ?_
    -- all names, orders and words are good
    refine ⟨_, rfl, a, D.kept, dx, fs, .ref p, rfl, sH _ _ ha, T.keptC, T.keptN, hfs, p, rfl, ⟨_, sH.seq hp⟩, fun D1 hD1 => ?_⟩
    refine lc_map (walk_list (K := K) (a := p) (xs := nxs)) (fun _ y _ => y = .bl true) hD1 (by omega) (fun _ _ _ _ _ h => h) (fun H' s1 => (sH.trans s1).seq hp) ?_ ?_
    · rintro i x Ha Hb Kk hi s1 ⟨rfl, ex⟩ kk
      obtain ⟨n, en, hnd⟩ := hF.2 i x ex
      have hgn := hg n (List.mem_of_getElem? en)
      obtain ⟨b, wb, rfl, hb1, hb2⟩ := node_get (hnd.mono (sH.trans s1))
      obtain ⟨la, lu, rfl, hget, _⟩ := looms_get (hL.mono (sH.trans s1)) ok.three hgn.2.1
      refine ⟨b, _, rfl, hb1, rfl, _, _, rfl, _, _, rfl, _, _, rfl, rfl, rfl, ?_⟩
      refine ⟨_, rfl, _, rfl, la, _, rfl, hget, true, rfl, iteT ?_⟩
      refine ⟨_, rfl, _, _, rfl, .inr (T.ordersT _), rfl, rfl, true, ?_, iteT ?_⟩
      · cases n.up <;> decide +kernel
      exact ⟨_, rfl, .ref wb, n.w, rfl, dp_w hb2, hgn.1.2.1, hgn.2.2, hgn.1.2.2, fun H4 s4 => kk _ _ s4 rfl⟩
    intro H2 us s2 e2 l2 r2
    refine ⟨D1, List.replicate us.length true, rfl, ?_, true, by rw [all_rep], iteF ?_⟩
    · rw [← all_true r2]; exact SqL.of e2
    have sH2 := sH.trans s2
    have hD2 := s2 _ _ hD
    have hk2 := hk.mono s2
    -- the first rows
    refine ⟨_, rfl, ra, rfl, ⟨_, sH2.seq hra⟩, fun D3 hD3 => ?_⟩
    have hlm : rxs.length = ms.length := hms.1
    refine lc_map (walk_list (K := K) (a := ra) (xs := rxs)) (fun i y _ => ∃ m, ms[i]? = some m ∧ y = .bl (decide (m ∈ F))) hD3 (by omega) (fun _ _ _ _ _ h => h) (fun H' s1 => (sH2.trans s1).seq hra) ?_ ?_
    · rintro i x Ha Hb Kk hi s1 ⟨rfl, ex⟩ kk
      obtain ⟨m, em, sa, v0, v1, v2, v3, rfl, hSq, hnd⟩ := hms.2 i x ex
      have hm3' := hm3 m (List.mem_of_getElem? em)
      obtain ⟨b, _, rfl, _⟩ := node_get hnd
      have sHb := sH2.trans s1
      refine ⟨rfl, _, rfl, sa, _, _, .ref b, rfl, rfl, tupS sHb hSq, at_of (j := 2) rfl rfl, _, rfl, pf, b, ps, nK m, rfl, rfl, s1 _ _ hD2, (hk2.mono s1).keyed, key_node (hnd.mono sHb), ?_⟩
      rw [if_neg Bool.false_ne_true, has hm3']
      exact kk _ _ (Same.refl _) ⟨m, em, rfl⟩
    intro H3 ws s3 e3 l3 r3
    have ew := bools_of (f := fun m => decide (m ∈ F)) (by rw [l3, hlm]) r3
    have sH3 := sH2.trans s3
    refine ⟨D3, ms.map fun m => decide (m ∈ F), rfl, by rw [← ew]; exact SqL.of e3, ?_⟩
    by_cases hin : ∀ m ∈ ms, m ∈ F
    · have e : (ms.map fun m => decide (m ∈ F)).all id = true := all_map_id.mpr fun m hm => decide_eq_true (hin m hm)
      rw [e]
      refine ⟨true, rfl, iteF ?_⟩
      have hD3' := s3 _ _ hD2
      have hk3 := hk2.mono s3
      refine ⟨_, rfl, a, D.kept, dx, fs, .ref p, rfl, sH3 _ _ ha, T.keptC, T.keptN, hfs, p, rfl, ⟨_, sH3.seq hp⟩, fun Dd hDd => ?_⟩
      refine lc2_it (walk_list (K := K) (a := p) (xs := nxs)) (fun i Hx => ∃ bs : List Bool, Same H3 Hx ∧ Hx Dd = some (.lst (bs.map V.bl)) ∧ bs.length ≤ i * 1536 ∧ (bs.all id = true ↔ ∀ n ∈ F.take i, ∀ r, RowOf L n r → RowIn F r)) ⟨[], same_new hDd, upd_same, Nat.zero_le _, by simp⟩ (fun i Hx _ ⟨_, h, _⟩ => (sH3.trans h).seq hp) ?_ ?_
      · rintro i x Hx' Hx hi ⟨bs, sx, hb, hbl, hbs⟩ ⟨rfl, ex⟩
        obtain ⟨n, en, hnd⟩ := hF.2 i x ex
        have hnF := List.mem_of_getElem? en
        have hgn := hg n hnF
        have sHx := sH3.trans sx
        refine ⟨rfl, _, rfl, _, rfl, v, x, L, n, rfl, hL.mono sHx, ok, hnd.mono sHx, hgn.2.1, hgn.2.2, hgn.1.2.2, fun H4 p4 rxs4 rs4 s4 hp4 n4 hR4 hmem4 hl4 => ?_⟩
        have npD : p4 ≠ Dd := fun e => by rw [e, hb] at n4; cases n4
        have hml : ∀ l ∈ [Dd], ∃ o, Hx l = some o ∧ isTup o = false := fun l hl => by
          rw [List.mem_singleton.mp hl]; exact ⟨_, hb, rfl⟩
        have hR5 : AllR (RowAt K D) (drp [Dd] H4) rxs4 rs4 := hR4.mono (fun _ _ _ _ s h => h.mono s) (off_fsh hml)
        have hil : i < 186 := by have := (List.getElem?_eq_some_iff.mp en).1; omega
        have hrl : rxs4.length = rs4.length := hR4.1
        refine ⟨p4, rfl, ⟨_, SqL.of hp4⟩, ?_⟩
        refine in_it (walk_list (K := K) (a := p4) (xs := rxs4)) (fun j Hz => ∃ bs2 : List Bool, Same H3 Hz ∧ Hz p4 = some (.lst rxs4) ∧ Hz Dd = some (.lst (bs2.map V.bl)) ∧ bs2.length = bs.length + j ∧ (bs2.all id = true ↔ bs.all id = true ∧ ∀ r ∈ rs4.take j, RowIn F r) ∧ AllR (RowAt K D) (drp [Dd] Hz) rxs4 rs4)
          ⟨bs, sx.trans s4, hp4, s4 _ _ hb, rfl, by simp, hR5⟩ (fun j Hz _ ⟨_, _, h, _⟩ => SqL.of h) ?_ ?_
        · rintro j z Hz' Hz hj ⟨bs2, b1, b2, b3, b4, b5, b6⟩ ⟨rfl, ez⟩
          obtain ⟨r, er, rp, vl, nv, rfl, rSq, _, rnv⟩ := b6.2 j z ez
          have hrow : RowOf L n r := (hmem4 r).mp (List.mem_of_getElem? er)
          obtain ⟨m, em⟩ := hsome n hnF r hrow
          rw [em] at rnv
          obtain ⟨mb, _, rfl, _⟩ := node_get rnv
          have hgm := row_good ok.wf hgn.1 hrow em
          have sHz := sH3.trans b1
          refine ⟨rfl, _, rfl, rp, _, _, .ref mb, rfl, rfl, tupS drp_le rSq, at_of (j := 2) rfl rfl, _, rfl, pf, mb, ps, nK m, rfl, rfl, b1 _ _ hD3', (hk3.mono b1).keyed, key_node (rnv.mono drp_le), ?_⟩
          rw [if_neg Bool.false_ne_true, has hgm.1.1]
          have hi6 : i * 1536 ≤ 185 * 1536 := Nat.mul_le_mul_right _ (by omega)
          refine ⟨bs2.map V.bl, b3, by rw [List.length_map]; omega, bs2 ++ [decide (m ∈ F)], same_upd_new b1 hDd, by rw [upd_ne npD]; exact b2, by rw [upd_same, List.map_append]; rfl, by simp; omega, ?_, by rw [drp_upd (by simp)]; exact b6⟩
          have et : rs4.take (j + 1) = rs4.take j ++ [r] := by rw [List.take_add_one, er]; rfl
          rw [List.all_append, Bool.and_eq_true, b5, et]
          constructor
          · rintro ⟨⟨h1, h2⟩, h3⟩
            refine ⟨h1, fun r' hr' => ?_⟩
            rcases List.mem_append.mp hr' with q | q
            · exact h2 r' q
            · rw [List.mem_singleton.mp q]
              exact ⟨m, em, by simpa using h3⟩
          · rintro ⟨h1, h2⟩
            refine ⟨⟨h1, fun r' hr' => h2 r' (List.mem_append_left _ hr')⟩, ?_⟩
            obtain ⟨m', e', hm'⟩ := h2 r (by simp)
            rw [em] at e'
            cases e'
            simpa using hm'
        · rintro Hz ⟨bs2, b1, b2, b3, b4, b5, b6⟩
          rw [hrl, List.take_length] at b5
          refine ⟨bs2, b1, b3, by omega, ?_⟩
          have et : F.take (i + 1) = F.take i ++ [n] := by rw [List.take_add_one, en]; rfl
          rw [b5, hbs, et]
          constructor
          · rintro ⟨h1, h2⟩ n' hn' r hr
            rcases List.mem_append.mp hn' with q | q
            · exact h1 n' q r hr
            · rw [List.mem_singleton.mp q] at hr
              exact h2 r ((hmem4 r).mpr hr)
          · intro h
            exact ⟨fun n' hn' => h n' (List.mem_append_left _ hn'), fun r hr => h n (by simp) r ((hmem4 r).mp hr)⟩
      · rintro Hx ⟨bs, sx, hb, hbl, hbs⟩
        rw [hlF, List.take_length] at hbs
        refine ⟨Dd, bs, rfl, SqL.of hb, k _ ?_ _ (sH3.trans sx)⟩
        rw [hbs]
        exact ⟨fun h => ⟨hin, h⟩, fun h => h.2⟩
    · have e : (ms.map fun m => decide (m ∈ F)).all id = false := by
        cases q : (ms.map fun m => decide (m ∈ F)).all id with
        | false => rfl
        | true => exact absurd (fun m hm => of_decide_eq_true (all_map_id.mp q m hm)) hin
      rw [e]
      refine ⟨false, rfl, iteT (k false ?_ _ sH3)⟩
      exact ⟨fun h => Bool.noConfusion h, fun h => absurd h.1 hin⟩
end
end K6
set_option Elab.async false
set_option linter.all false
set_option maxRecDepth 100000
set_option maxHeartbeats 4000000
namespace K6
open PySem PySem.Spec PyProof.Rows L2
section
variable {P : Program} {w : World} {K : PySem.W.Frag} {mg : Str → Option Value} {base : Heap} {D : Ads}
def spKeptShows (K : PySem.W.Frag) (D : Ads) : Sp := fun vs H Q _ => ∃ (a dx p wa : Addr) (v : V) (nm : Nat) (up : Bool) (nxs xs : List V) (ws : List (List Int)) (L : Looms) (F : List Node), vs = [.ref a, v, .str (nmS nm), .ref wa, .str (ordS up)] ∧ H a = some (.ins D.kept dx (putF "nodes" (.ref p) [])) ∧ SqL K H p nxs ∧ AllR (NodeR K) H nxs F ∧
  LoomsAt K H v L ∧ LOk L ∧ InsideL L ∧ nm < L.length ∧ SqA K H wa xs ∧ DpAll K H xs (ws.map wD) ∧ WordsOk ws ∧ ws.length ≤ 4 ∧ (∀ n ∈ F, Good n ∧ NodeOk L n) ∧ F.length ≤ 186 ∧ (∀ n ∈ F, ∀ r, RowOf L n r → ∃ m, r.node = some m) ∧
  ∀ b, (b = true ↔ (∀ m ∈ stN nm up ws, m ∈ F) ∧ Closed L F) → Ret H Q (.bl b)
theorem ok_keptShows (U : Txu w K mg D) : FnOk P w K mg base CX0 14 (D.d 464).f (D.d 464).fd ["self", "looms", "name", "words", "order"] (spKeptShows K D) := by
  have T := U.T
  refine T.w464.F.ok scKeptShows (fun vs H Q E h => ?_) (fun cdv A outer s H vs Q E hr h => ?_)
  · obtain ⟨_, _, _, _, _, _, _, _, _, _, _, _, rfl, _⟩ := h
    rfl
  · obtain ⟨a, dx, p, wa, v, nm, up, nxs, xs, ws, L, F, rfl, ha, hp, hF, hL, ok, hI, hnm, hwa, hx, hW, h4, hg, h186, hsome, k⟩ := h
    refine ⟨_, (pss_cons (ps_expr (pe_call (ok_checkBlocks U) (hr.mono (by decide)) (by rfl) T.w49.m T.w49.F.kp T.w49.B .nil passX0 (pa_cons (pv 1) (pa_cons (pv 2) (pa_cons (pv 3) (pa_cons (pv 4) pa_nil))))))
      (pss_one (ps_ret (pe_meth (pv 0) T.keptC T.w463.M (ok_keptIsClosed U) (hr.mono (by decide)) T.w463.B .nil pass0 (pa_cons (pv 1) (pa_cons (pe_lc (own := [("word", 5)]) (by rfl) scKeptShows.nd (pi_seq (pv 3)) (blkOk_by (own := [("word", 5)]) (N := ["self", "looms", "name", "words", "order", "word"]) (sc := defScope sKeptShows) (by decide +kernel)) (fun _ _ _ _ _ => (pg_name (i := 5) scKeptShows.nd rfl (by first | exact Or.inl rfl | exact Or.inr rfl))) (fun _ _ _ _ _ => pts_nil) (fun _ _ _ _ _ => (pe_tup (pa_cons pe_non (pa_cons pe_non (pa_cons (pe_tup (pa_cons (pv 2) (pa_cons (pv 4) (pa_cons (pv 5) pa_nil)))) (pa_cons pe_bl pa_nil))))))) pa_nil)))))), ?_⟩
    have hlx : xs.length = ws.length := by rw [hx.length]; simp
    have zl : sizeLine = 16777216 := sizeLine_eq
    have hnm3 : nm < 3 := by have := ok.three; omega
    refine ⟨_, rfl, _, rfl, _, rfl, _, rfl, v, L, nm, wa, xs, ws, up, rfl, hL, ok, hnm, hwa, hx, hW, h4, fun _ H1 s1 => ?_, fun h => absurd hI h⟩
    refine ⟨_, rfl, a, dx, _, rfl, s1 _ _ ha, by rw [lk_ne (by decide)]; rfl, _, rfl, ?_⟩
    refine tLc_seq (fun i y Hz => ∃ n, (stN nm up ws)[i]? = some n ∧ StartAt K Hz y n) (fun G q => ⟨_, rfl, q⟩) (seqA_mono s1 hwa) (by omega) (fun i y Ha Hb s ⟨n, e, sa, v0, v1, v2, v3, h0, h1, h2⟩ => ⟨n, e, sa, v0, v1, v2, v3, h0, tupS s h1, h2.mono s⟩) ?_ ?_
    · intro i x Ha Kk ex sa kk
      obtain ⟨d, ed, hd⟩ := hx.getV ex
      rw [List.getElem?_map] at ed
      obtain ⟨wd, ew, rfl⟩ := Option.map_eq_some_iff.mp ed
      refine ⟨rfl, _, rfl, _, rfl, _, rfl, small3, fun q hq => ?_⟩
      have sq := same_new (o := .tup [.str (nmS nm), .str (ordS up), x]) hq
      refine ⟨by show 4 ≤ sizeLine; omega, fun q2 hq2 => ?_⟩
      have sq2 := same_new (o := .tup [.non, .non, .ref q, .bl false]) hq2
      have hn : Dp K (upd (upd Ha q (.tup [.str (nmS nm), .str (ordS up), x])) q2 (.tup [.non, .non, .ref q, .bl false])) (.ref q) (nodeD ⟨nm, up, wd⟩) := by
        exact .tup (SqT.of (sq2 _ _ upd_same)) (.cons (.str _) (.cons (.str _) (.cons (hd.mono (((s1.trans sa).trans sq).trans sq2)) .nil)))
      refine kk _ _ (sq.trans sq2) ⟨⟨nm, up, wd⟩, by unfold stN; rw [List.getElem?_map, ew]; rfl, q2, .non, .non, .ref q, .bl false, rfl, ?_, dp_fsh (sq.trans sq2) (noL_node _) hn⟩
      refine SqT.of ?_
      have n0 : Ha q2 = none := by
        have e : q2 ≠ q := fun e => by rw [e, upd_same] at hq2; cases hq2
        rw [upd_ne e] at hq2; exact hq2
      rw [fsh_none n0]; exact upd_same
    · intro Dd H2 rxs hDd s2 hD hl hr
      have sH := s1.trans s2
      have hlS : (stN nm up ws).length = ws.length := by unfold stN; simp
      have hA : AllR (StartAt K) H2 rxs (stN nm up ws) := ⟨by rw [hl, hlx, hlS], fun i y e => by
        obtain ⟨n, e1, sa, v0, v1, v2, v3, h0, h1, h2⟩ := hr i y e
        exact ⟨n, e1, sa, v0, v1, v2, v3, h0, tupS own_le h1, h2.mono own_le⟩⟩
      refine ⟨a, dx, p, Dd, v, putF "nodes" (.ref p) [], nxs, rxs, L, F, stN nm up ws, rfl, sH _ _ ha, lk_eq, sH.seq hp, hF.mono (fun _ _ _ _ s h => h.mono s) sH, hL.mono sH, ok, hg, h186, SqL.of hD, hA, fun m hm => ?_, by omega, hsome, fun b hb H3 s3 => k b hb _ (sH.trans s3)⟩
      obtain ⟨wd, _, rfl⟩ := List.mem_map.mp hm
      exact hnm3
end
end K6
set_option Elab.async false
set_option linter.all false
set_option maxRecDepth 100000
set_option maxHeartbeats 1000000
namespace K6
open PySem PySem.Spec PyProof.Rows L2
section
variable {X : Cx} {D : Ads}
/-- an answer of judge_blocks: kept (true) or broken (false) -/
def IsAns (D : Ads) (H : Hp) (x : V) (b : Bool) : Prop := ∃ a dx fs, x = .ref a ∧ ((b = true ∧ H a = some (.ins D.kept dx fs)) ∨ (b = false ∧ H a = some (.ins D.broken dx fs)))
def tTruth (D : Ads) (te : TE) : TT := fun σ H G => te σ H fun x H1 => ∃ b, IsAns D H1 x b ∧ G b H1
theorem truthy_ans {pins : List (Addr × Obj)} {σ : L2.St} {H : Hp} {s : Shared} {A : Around} {E : Value → Shared → Prop} {G : Bool → Hp → Prop} {x : V} {u : Value} {b : Bool} (T : Txt X.K X.mg D) (I : Inv X pins σ H s) (rx : RelV x u) (hx : IsAns D H x b) (hr : Room 1 A) (hE : Env0 X.prog X.w X.K X.mg X.base A X.stack s H) (h : G b H) :
    wpAny (model X.prog X.w) A (truthy u) (fun c s' => ∃ H2, Inv X pins σ H2 s' ∧ G c H2) E s := by
  obtain ⟨a, dx, fs, rfl, ⟨rfl, ea⟩ | ⟨rfl, ea⟩⟩ := hx
  · obtain rfl : u = Value.ref a := rx
    exact truthy_inst I ea T.w462.M (ok_keptBool T) T.w462.B hr hE ⟨_, rfl, true, rfl, h⟩
  · obtain rfl : u = Value.ref a := rx
    exact truthy_inst I ea T.w472.M (ok_brokenBool T) T.w472.B hr hE ⟨_, rfl, false, rfl, h⟩
theorem pt_ans {e : Expr} {te : TE} (T : Txt X.K X.mg D) (hr : Room 1 X.A) (h : PE X e te) (he : ∀ whole, isTrue e X.env whole = (do let v ← whole; standAt e.pos; holding [v] (truthy v)) := by intro _; rfl) : PT X e (tTruth D te) := by
  refine ⟨fun pins s σ H Q I hw => ?_⟩
  refine isTrue_plain (thn (h.run pins s σ H _ I hw) fun v s1 ⟨x, H1, I1, r1, b, hb, q⟩ => ?_) (he _)
  exact truthy_ans T I1 r1 hb hr I1.env0 q
theorem call_bool_ans (T : Txt X.K X.mg D) (hr : Room 3 X.A) : CallR X (.type "bool") (fun xs H Q => ∃ x b, xs = [x] ∧ IsAns D H x b ∧ Q (.bl b) H) := by
  intro pins s σ H xs us Q I r h
  obtain ⟨x, b, rfl, hb, q⟩ := h
  obtain ⟨u, rfl, rx⟩ := vals1 r
  have key : MeetsIn X.prog X.w (Builtin.«bool.__new__» ⟨[.type "bool", u], []⟩) (fun A R s => wpAny (model X.prog X.w) A.in1 (truthy u) (fun b s' => R (.ok (.ret (.bool b))) s') (fun e s' => R (.error e) s') s) := .of_wp fun A R s h => by
    have f1 := PySem.F.conv_sub_bool
    obtain ⟨hp, g, d, tk, os⟩ := s
    have hh : ∀ {Q' : Bool → Shared → Prop}, (∀ b s', R (.ok (.ret (.bool b))) s' → Q' b s') → wpAny (model X.prog X.w) A.in1 (truthy u) Q' (fun e s' => R (.error e) s') ⟨hp, g, d, tk, os⟩ := fun q => wpAny_mono h q fun _ _ z => z
    repeat (any_goals (first | assumption | (with_reducible refine hh ?_) | wp_step))
    intro b s' hb
    repeat (any_goals (first | assumption | wp_step))
    exact ⟨_, rfl, hb⟩
  refine callType_newIn PySem.F.called_bool PySem.F.newNe_bool (PySem.F.typeCall_bool_1 u) (PySem.F.newCall_bool_1 u) (fun obj => PySem.F.args_object_init_2 obj u) PySem.F.entry_bool_new key ?_
  refine wpAny_mono (truthy_ans T I rx hb hr.in1.in1 I.env0.in1.in1 (G := fun b H => Q (.bl b) H) q) (fun c s' ⟨H2, I2, g⟩ => ⟨rfl, .bl c, H2, I2, rfl, g⟩) fun e s' z => z
/-- o.m(e, ..), o an instance of C1 or of C2 -/
def tMeth2 (C1 C2 : Addr) (m : Str) (sp1 sp2 : Sp) (ta : TE) (t : TA) : TE := fun σ H Q => ta σ H fun x H1 => ∃ a dx fs, x = .ref a ∧ fs.lookup m = none ∧
  ((H1 a = some (.ins C1 dx fs) ∧ t σ H1 fun vs H2 => sp1 (x :: vs) H2 Q E0) ∨ (H1 a = some (.ins C2 dx fs) ∧ t σ H1 fun vs H2 => sp2 (x :: vs) H2 Q E0))
theorem pe_meth2 {C1 C2 f1 f2 : Addr} {fd1 fd2 : FuncData} {ps : List Str} {k : Nat} {m : Str} {o e : Expr} {es : List Expr} {ta : TE} {t : TA} {sp1 sp2 : Sp} {apos pos : PySem.Pos} {pl : Sem Bool} (he : PE X o ta) (c1 : Cls X.K C1) (m1 : Meth X.K C1 m f1) (F1 : FnOk X.prog X.w X.K X.mg X.base CX0 k f1 fd1 ps sp1) (b1 : Binds X.K fd1 ps [])
    (c2 : Cls X.K C2) (m2 : Meth X.K C2 m f2) (F2 : FnOk X.prog X.w X.K X.mg X.base CX0 k f2 fd2 ps sp2) (b2 : Binds X.K fd2 ps []) (hr : Room k X.A) (ha : PA X (e :: es) t)
    (hst : starEach (e :: es) X.env = (false, eval e X.env) :: starEach es X.env := by rfl) (hpl : (backTo pos (starEach es X.env)).any (·.1) = false := by rfl)
    (ht : eval (.Call (.Attribute o m apos) (e :: es) [] pos) X.env = (do
      let ov ← eval o X.env
      standAt apos.atName
      let (f, first) ← holding [ov] (getMethod ov m pl)
      callWith pos f first (backTo pos (starEach (e :: es) X.env)) (backToKw pos (keywordEach [] X.env))) := by rfl) :
    PE X (.Call (.Attribute o m apos) (e :: es) [] pos) (tMeth2 C1 C2 m sp1 sp2 ta t) := by
  refine ⟨fun pins s σ H Q I h => ?_⟩
  refine PySem.W.methodCall_KW (pl := pl) (thn (he.run pins s σ H _ I h) fun u s1 ⟨x, H1, I1, rx, a, dx, fs, ex, l, q⟩ => ?_) ht
  subst ex
  obtain rfl : u = Value.ref a := rx
  rcases q with ⟨ea, q⟩ | ⟨ea, q⟩
  · refine getmeth_ok I1 ea c1 m1 l ?_
    refine PySem.W.callWith_K (first := [.ref a]) (h₀ := X.base) I.ok.mod.kin m1.kp (thn (ha.run pos pins s1 σ H1 _ I1 q) fun us s2 ⟨vs, H2, I2, r, q2⟩ => ⟨I2.kIn, ?_⟩) hst hpl
    exact run_fn (E := E0) (us := .ref a :: us) (vs := .ref a :: vs) (dvs := []) (ds := []) F1 hr b1 .nil pass0 I2 (.cons rfl r) (by rw [List.append_nil]; exact q2)
  · refine getmeth_ok I1 ea c2 m2 l ?_
    refine PySem.W.callWith_K (first := [.ref a]) (h₀ := X.base) I.ok.mod.kin m2.kp (thn (ha.run pos pins s1 σ H1 _ I1 q) fun us s2 ⟨vs, H2, I2, r, q2⟩ => ⟨I2.kIn, ?_⟩) hst hpl
    exact run_fn (E := E0) (us := .ref a :: us) (vs := .ref a :: vs) (dvs := []) (ds := []) F2 hr b2 .nil pass0 I2 (.cons rfl r) (by rw [List.append_nil]; exact q2)
end
end K6
set_option Elab.async false
set_option linter.all false
set_option maxRecDepth 100000
set_option maxHeartbeats 4000000
namespace K6
open PySem PySem.Spec PyProof.Rows L2
theorem un_notany {K : PySem.W.Frag} {te : TE} {σ : L2.St} {H : Hp} {G : Bool → Hp → Prop} (h : te σ H fun x H1 => rAny K [x] H1 fun y H2 => ∃ b, y = .bl b ∧ G (!b) H2) : tNot (tB (tCB (rAny K) (tCons te tNil))) σ H G := h
/-- 2^j is the least size of a row that breaks -/
def Least (L : Looms) (S : List Node) (j : Nat) : Prop := j ≤ 21 ∧ (∃ n ∈ S, ∃ row, BadRow L j n row) ∧ ∀ i, i < j → ∀ n ∈ S, ¬ Fails L i n
theorem BadRow.fails {L : Looms} (hI : InsideAll L) {j : Nat} {n : Node} {row : List Int} (hs : Sign n.w) (h : BadRow L j n row) : Fails L j n := by
  obtain ⟨sz, rfl, h1, h2, h3, h4⟩ := h
  refine fails_of hI j n sz h1.symm h2 ?_ hs h4
  rw [expand_length _ _ h1.symm] at h3
  exact h3
theorem Least.uniq {L : Looms} (hI : InsideAll L) {S : List Node} (hS : ∀ n ∈ S, Good n) {i j : Nat} (h : Least L S i) (g : Least L S j) : i = j := by
  obtain ⟨_, ⟨n, hn, r, hr⟩, h3⟩ := h
  obtain ⟨_, ⟨m, hm, q, hq⟩, g3⟩ := g
  have a := hr.fails hI (hS n hn).2.1
  have b := hq.fails hI (hS m hm).2.1
  by_cases c : i < j
  · exact absurd a (g3 i c n hn)
  · by_cases d : j < i
    · exact absurd b (h3 j d m hm)
    · omega
theorem BadRow.sign {L : Looms} {j : Nat} {n : Node} {row : List Int} (hs : Sign n.w) (h : BadRow L j n row) : Sign row := by
  obtain ⟨sz, rfl, h1, h2, h3, h4⟩ := h
  exact hs.expand h1.symm h2
section
variable {P : Program} {w : World} {K : PySem.W.Frag} {mg : Str → Option Value} {base : Heap} {D : Ads}
def spBrokenShows (K : PySem.W.Frag) (D : Ads) : Sp := fun vs H Q _ => ∃ (a dx p wa : Addr) (v : V) (nm : Nat) (up : Bool) (row : List Int) (xs : List V) (ws : List (List Int)) (L : Looms) (j : Nat), vs = [.ref a, v, .str (nmS nm), .ref wa, .str (ordS up)] ∧ H a = some (.ins D.broken dx (putF "row" (.ref p) [])) ∧ SqL K H p (row.map V.int) ∧
  Sign row ∧ row.length ≤ 4194304 ∧ LoomsAt K H v L ∧ LOk L ∧ InsideL L ∧ nm < L.length ∧ SqA K H wa xs ∧ DpAll K H xs (ws.map wD) ∧ WordsOk ws ∧ ws.length ≤ 4 ∧ Least L (stN nm up ws) j ∧
  ((row.length ≠ 2 ^ j ∧ Ret H Q (.bl false)) ∨ ((∃ n ∈ stN nm up ws, BadRow L j n row) ∧ Ret H Q (.bl true)))
theorem ok_brokenShows (U : Txu w K mg D) : FnOk P w K mg base CX0 52 (D.d 473).f (D.d 473).fd ["self", "looms", "name", "words", "order"] (spBrokenShows K D) := by
  have T := U.T
  refine T.w473.F.ok scBrokenShows (fun vs H Q E h => ?_) (fun cdv A outer s H vs Q E hr h => ?_)
  · obtain ⟨_, _, _, _, _, _, _, _, _, _, _, _, rfl, _⟩ := h
    rfl
  · obtain ⟨a, dx, p, wa, v, nm, up, row, xs, ws, L, j, rfl, ha, hp, hsg, hsz, hL, ok, hI, hnm, hwa, hx, hW, h4, hj, hk⟩ := h
    refine ⟨_, (pss_cons (ps_expr (pe_call (ok_checkSigns T) (hr.mono (by decide)) (by rfl) T.w9.m T.w9.F.kp T.w9.B .nil pass0 (pa_cons (pe_fld (pv 0) (by rfl)) pa_nil)))
      (pss_cons (ps_set (i := 5) scBrokenShows.nd rfl (by first | exact Or.inl rfl | exact Or.inr rfl) (pe_call (ok_judgeBlocks U) (hr.mono (by decide)) (by rfl) T.w56.m T.w56.F.kp T.w56.B .nil passX0 (pa_cons (pv 1) (pa_cons (pv 2) (pa_cons (pv 3) (pa_cons (pv 4) pa_nil))))))
      (pss_cons (ps_if (PW.pt (pw_or (pt_ans (D := D) T (hr.mono (by decide)) (pv 5)) (pw_or (pt_cmpR op_ne (pe_callB call_len_seq (by rfl) T.len boot_len (pa_cons (pe_fld (pv 0) (by rfl)) pa_nil)) (pe_callB call_len_seq (by rfl) T.len boot_len (pa_cons (pe_fld (pv 5) (by rfl)) pa_nil)) (nomark _)) (pw_or1 (pt_not (pt_val (pe_callB (cr_any rfl) (by rfl) T.any boot_any (pa_cons (pe_lc (own := [("word", 6)]) (by rfl) scBrokenShows.nd (pi_seq (pv 3)) (blkOk_by (own := [("word", 6)]) (N := ["self", "looms", "name", "words", "order", "due", "word"]) (sc := defScope sBrokenShows) (by decide +kernel)) (fun _ _ _ _ _ => (pg_name (i := 6) scBrokenShows.nd rfl (by first | exact Or.inl rfl | exact Or.inr rfl))) (fun _ _ _ _ _ => pts_nil) (fun _ _ _ _ _ => (pe_call (ok_hasBlocks T) (hr.mono (by decide)) (by rfl) T.w48.m T.w48.F.kp T.w48.B .nil pass0 (pa_cons (pe_fldK K (by rfl) (pv 0) (by rfl)) (pa_cons (pv 6) pa_nil))))) pa_nil)))))))) (pss_one (ps_ret pe_bl)) pss_nil)
      (pss_one (ps_ret (pe_not (pe_call (ok_isSorted T) (hr.mono (by decide)) (by rfl) T.w39.m T.w39.F.kp T.w39.B .nil pass0 (pa_cons (pe_call (ok_loomed T) (hr.mono (by decide)) (by rfl) T.w28.m T.w28.F.kp T.w28.B .nil pass0 (pa_cons (pv 1) (pa_cons (pv 2) (pa_cons (pe_fld (pv 0) (by rfl)) pa_nil)))) (pa_cons (pv 4) pa_nil))))))))), ?_⟩
    have hlx : xs.length = ws.length := by rw [hx.length]; simp
    have zl : sizeLine = 16777216 := sizeLine_eq
    have hS : ∀ n ∈ stN nm up ws, Good n := fun n hn => by
      obtain ⟨wd, hwd, rfl⟩ := List.mem_map.mp hn
      obtain ⟨q1, q2, q3⟩ := hW wd hwd
      exact ⟨by have := ok.three; show nm < 3; omega, q1, q3⟩
    have ba : (putF "row" (V.ref p) []).lookup ("row" : Str) = some (.ref p) := lk_eq
    refine ⟨_, rfl, a, D.broken, dx, _, .ref p, rfl, ha, T.brokenC, T.brokenN, ba, p, row, rfl, hp, hsg, by omega, fun H1 s1 => ?_⟩
    refine ⟨_, rfl, _, rfl, _, rfl, _, rfl, v, L, nm, wa, xs, ws, up, rfl, hL.mono s1, ok, hnm, seqA_mono s1 hwa, hx.mono s1, hW, h4, fun h => absurd hI h, fun _ H2 a2 dx2 p2 nxs F s2 e1 e2 e3 hin hcl _ _ _ => ?_, fun _ H2 a2 dx2 p2 row2 j2 s2 e1 e2 hj2 hbr hno => ?_⟩
    · -- it is not kept
      exfalso
      obtain ⟨_, ⟨n, hn, r, hr'⟩, _⟩ := hj
      obtain ⟨d, hd⟩ := fails_mono_rb (hr'.fails hI.all (hS n hn).2.1)
      exact closed_rb hcl (hin n hn) hd
    · have ej : j2 = j := Least.uniq hI.all hS ⟨hj2, by obtain ⟨n, hn, h⟩ := hbr; exact ⟨n, hn, row2, h⟩, hno⟩ hj
      subst ej
      have hl2 : row2.length = 2 ^ j2 := by
        obtain ⟨n, hn, sz, h1, h2, h3, h4, h5⟩ := hbr
        exact h4
      have sH := s1.trans s2
      refine gn_st (σ' := [some (.ref a), some v, some (.str (nmS nm)), some (.ref wa), some (.str (ordS up)), some (.ref a2), none]) rfl ?_
      have ba2 : (putF "row" (V.ref p2) []).lookup ("row" : Str) = some (.ref p2) := lk_eq
      refine ⟨_, rfl, false, ⟨a2, dx2, _, rfl, .inr ⟨rfl, e1⟩⟩, iteF ?_⟩
      refine ⟨_, rfl, a, D.broken, dx, _, .ref p, rfl, sH _ _ ha, T.brokenC, T.brokenN, ba, p, _, rfl, .inl (sH.seq hp), _, rfl, a2, D.broken, dx2, _, .ref p2, rfl, e1, T.brokenC, T.brokenN, ba2, p2, _, rfl, .inl (SqL.of e2), rfl, decide (row.length ≠ 2 ^ j2), ?_, ?_⟩
      · refine congrArg V.bl ?_
        rw [List.length_map, List.length_map, hl2, dec_int, Bool.eq_iff_iff]
        simp only [Bool.not_eq_true', beq_eq_false_iff_ne, decide_eq_true_eq, ne_eq]
        omega
      rcases hk with ⟨hne, k⟩ | ⟨hbad, k⟩
      · rw [decide_eq_true hne]
        exact iteT (iteT (k _ sH))
      · obtain ⟨n, hn, hb⟩ := hbad
        have hlr : row.length = 2 ^ j2 := by
          obtain ⟨sz, h1, h2, h3, h4, h5⟩ := hb
          exact h4
        rw [decide_eq_false (by simp [hlr])]
        refine iteF ?_
        refine un_notany ?_
        refine tLc_seq (fun i y _ => ∃ wd, ws[i]? = some wd ∧ y = .bl (hasB wd row)) (fun G q => ⟨_, rfl, q⟩) (seqA_mono sH hwa) (by omega) (fun _ _ _ _ _ h => h) ?_ ?_
        · intro i x Ha Kk ex sa kk
          obtain ⟨d, ed, hd⟩ := hx.getV ex
          rw [List.getElem?_map] at ed
          obtain ⟨wd, ew, rfl⟩ := Option.map_eq_some_iff.mp ed
          obtain ⟨q1, q2, q3⟩ := hW wd (List.mem_of_getElem? ew)
          have sHa := sH.trans sa
          obtain ⟨wp, rfl, hwp⟩ := get_w (hd.mono sHa)
          exact ⟨rfl, _, rfl, a, D.broken, dx, _, .ref p, rfl, sHa _ _ ha, T.brokenC, T.brokenN, ba, _, rfl, p, wp, row, wd, rfl, sHa.seq hp, hwp, by omega, q3, hsz, fun H4 s4 => kk _ _ s4 ⟨wd, ew, rfl⟩⟩
        · intro Dd H3 ys hDd s3 hD hl hr3
          have ey := bools_of (f := fun wd => hasB wd row) (by rw [hl, hlx]) hr3
          have sH3 := sH.trans s3
          have hany : (ws.map fun wd => hasB wd row).any id = true := by
            obtain ⟨wd, hwd, e⟩ := List.mem_map.mp hn
            subst e
            obtain ⟨q1, q2, q3⟩ := hW wd hwd
            obtain ⟨sz, h1, h2, h3, h4, h5⟩ := hb
            rw [List.any_map, List.any_eq_true]
            refine ⟨wd, hwd, ?_⟩
            show hasB wd row = true
            rw [h1]
            exact hasB_expand (by intro e; rw [e] at q2; simp at q2) h2.symm h3
          refine ⟨Dd, ws.map fun wd => hasB wd row, rfl, by rw [← ey]; exact SqL.of hD, true, by rw [hany], iteF ?_⟩
          refine ⟨_, rfl, _, rfl, _, rfl, a, D.broken, dx, _, .ref p, rfl, sH3 _ _ ha, T.brokenC, T.brokenN, ba, v, L, nm, p, row, j2, rfl, hL.mono sH3, ok, hnm, sH3.seq hp, hlr, hj2, fun H4 q s4 hq => ?_⟩
          refine ⟨_, rfl, q, doneN L j2 nm row, up, rfl, .inl hq, fun H5 s5 => ⟨_, rfl, ?_⟩⟩
          have hns : ¬ srt up (doneN L j2 nm row) := by
            obtain ⟨wd, hwd, e⟩ := List.mem_map.mp hn
            subst e
            obtain ⟨sz, h1, h2, h3, h4, h5⟩ := hb
            exact h5
          rw [decide_eq_false hns]
          exact k _ ((sH3.trans s4).trans s5)
end
end K6
set_option Elab.async false
set_option linter.all false
set_option maxRecDepth 100000
set_option maxHeartbeats 4000000
namespace K6
open PySem PySem.Spec PyProof.Rows L2
section
variable {P : Program} {w : World} {K : PySem.W.Frag} {mg : Str → Option Value} {base : Heap} {D : Ads}
def spCellAt (K : PySem.W.Frag) : Sp := fun vs H Q _ => ∃ (a : Addr) (ns : List Int) (k : Nat), vs = [.ref a, .int k] ∧ SqL K H a (ns.map V.int) ∧ ∀ i : Int, (i ∈ ns ∨ i = 0) → Q (.int i) H
theorem ok_lawCellAt (T : Txt K mg D) : FnOk P w K mg base CX0 1 (D.d 58).f (D.d 58).fd ["_law_script", "_law_k"] (spCellAt K) := by
  refine T.w58.F.ok scLawCellAt (fun vs H Q E h => ?_) (fun cdv A outer s H vs Q E hr h => ?_)
  · obtain ⟨_, _, _, rfl, _⟩ := h
    rfl
  · obtain ⟨a, ns, k, rfl, hS, kk⟩ := h
    refine ⟨_, (pss_cons (ps_if (pt_cmpR op_lt (pv 1) (pe_callB call_len_seq (by rfl) T.len boot_len (pa_cons (pv 0) pa_nil)) (nomark _)) (pss_one (ps_ret (pe_ix ix_list (pv 0) (pv 1) (fun _ _ => rfl)))) pss_nil)
      (pss_one (ps_ret pe_int))), ?_⟩
    refine ⟨_, rfl, _, rfl, _, _, rfl, .inl hS, _, _, rfl, rfl, decide (k < ns.length), ?_, ?_⟩
    · exact congrArg V.bl (decide_eq_decide.mpr (by rw [List.length_map]; omega))
    by_cases h : k < ns.length
    · rw [decide_eq_true h]
      exact iteT ⟨_, rfl, _, rfl, a, _, _, .int ns[k], rfl, rfl, hS, at_of (j := k) rfl (by rw [List.getElem?_map, List.getElem?_eq_getElem h]; rfl), kk _ (.inl (List.getElem_mem h))⟩
    · rw [decide_eq_false h]
      exact iteF (kk 0 (.inr rfl))
def spDraw : Sp := fun vs H Q _ => ∃ (c k b : Int), vs = [.int c, .int k, .int b] ∧ 0 < b ∧ b < 1073741824 ∧ 0 ≤ k ∧ k < 1000 ∧ ∀ (i : Int) H', 0 ≤ i → i < b → Same H H' → Q (.int i) H'
theorem ok_lawDraw (T : Txt K mg D) : FnOk P w K mg base CX0 1 (D.d 59).f (D.d 59).fd ["_law_cell", "_law_k", "_law_bound"] spDraw := by
  refine T.w59.F.ok scLawDraw (fun vs H Q E h => ?_) (fun cdv A outer s H vs Q E hr h => ?_)
  · obtain ⟨_, _, _, rfl, _⟩ := h
    rfl
  · obtain ⟨c, k, b, rfl, hb0, hb1, hk0, hk1, kk⟩ := h
    refine ⟨_, (pss_cons (ps_set (i := 3) scLawDraw.nd rfl (by first | exact Or.inl rfl | exact Or.inr rfl) (pe_tup (pa_cons pe_int (pa_cons pe_int (pa_cons pe_int (pa_cons pe_int (pa_cons pe_int (pa_cons pe_int (pa_cons pe_int (pa_cons pe_int (pa_cons pe_int (pa_cons pe_int (pa_cons pe_int (pa_cons pe_int (pa_cons pe_int (pa_cons pe_int (pa_cons pe_int (pa_cons pe_int pa_nil))))))))))))))))))
      (pss_one (ps_ret (pe_op op_mod (pe_op op_mod (pe_callTy call_int1 (by rfl) T.int boot_int (pa_cons (pe_op op_add (pe_op op_mul (pv 0) pe_int) (pe_op op_mul (pv 1) pe_int)) pa_nil)) (pe_ix ix_tup (pv 3) (pe_op op_mod (pe_callTy call_int1 (by rfl) T.int boot_int (pa_cons (pv 1) pa_nil)) pe_int) (fun _ _ => rfl))) (pv 2))))), ?_⟩
    refine ⟨by show 16 ≤ sizeLine; decide, fun p hp => ?_⟩
    have s1 := same_new (o := .tup [.int 1000003, .int 1000033, .int 1000037, .int 1000039, .int 1000081, .int 1000099, .int 1000117, .int 1000121, .int 1000133, .int 1000151, .int 1000159, .int 1000171, .int 1000183, .int 1000187, .int 1000193, .int 1000199]) hp
    have hk16 : 0 ≤ k % 16 ∧ k % 16 < 16 := ⟨Int.emod_nonneg _ (by decide), Int.emod_lt_of_pos _ (by decide)⟩
    obtain ⟨j, hj⟩ : ∃ j : Nat, k % 16 = j := ⟨(k % 16).toNat, by omega⟩
    have hjl : j < 16 := by omega
    have hprime : ∃ q : Int, [(1000003 : Int), 1000033, 1000037, 1000039, 1000081, 1000099, 1000117, 1000121, 1000133, 1000151, 1000159, 1000171, 1000183, 1000187, 1000193, 1000199][j]? = some q ∧ 0 < q := by
      have := List.getElem?_eq_getElem (l := [(1000003 : Int), 1000033, 1000037, 1000039, 1000081, 1000099, 1000117, 1000121, 1000133, 1000151, 1000159, 1000171, 1000183, 1000187, 1000193, 1000199]) (i := j) hjl
      refine ⟨_, this, ?_⟩
      have hall : ∀ x ∈ [(1000003 : Int), 1000033, 1000037, 1000039, 1000081, 1000099, 1000117, 1000121, 1000133, 1000151, 1000159, 1000171, 1000183, 1000187, 1000193, 1000199], 0 < x := by decide
      exact hall _ (List.getElem_mem _)
    obtain ⟨q, eq, hq⟩ := hprime
    have hq' : [(V.int 1000003), .int 1000033, .int 1000037, .int 1000039, .int 1000081, .int 1000099, .int 1000117, .int 1000121, .int 1000133, .int 1000151, .int 1000159, .int 1000171, .int 1000183, .int 1000187, .int 1000193, .int 1000199][j]? = some (.int q) := by
      have e : [(V.int 1000003), .int 1000033, .int 1000037, .int 1000039, .int 1000081, .int 1000099, .int 1000117, .int 1000121, .int 1000133, .int 1000151, .int 1000159, .int 1000171, .int 1000183, .int 1000187, .int 1000193, .int 1000199] = [(1000003 : Int), 1000033, 1000037, 1000039, 1000081, 1000099, 1000117, 1000121, 1000133, 1000151, 1000159, 1000171, 1000183, 1000187, 1000193, 1000199].map V.int := rfl
      rw [e, List.getElem?_map, eq]; rfl
    refine ⟨_, rfl, _, _, rfl, rfl, .inr ⟨by decide, by decide⟩, _, rfl, _, _, rfl, rfl, .inr ⟨by decide, by decide⟩, _, _, rfl, rfl, .inl ⟨_, rfl, ?_⟩⟩
    refine ⟨_, rfl, _, rfl, .inl ⟨_, rfl, _, _, rfl, rfl, (show (0 : Int) < 16 by decide), ?_⟩⟩
    refine ⟨p, _, _, .int q, rfl, rfl, SqT.of upd_same, at_of (j := j) hj hq', _, _, rfl, rfl, hq, _, rfl, _, _, rfl, rfl, hb0, ?_⟩
    exact kk _ _ (Int.emod_nonneg _ (by omega)) (Int.emod_lt_of_pos _ hb0) s1
def spNumber : Sp := fun vs H Q _ => ∃ (c k b : Int), vs = [.int c, .int k, .int b] ∧ 0 < b ∧ b < 1073741824 ∧ 0 ≤ k ∧ k < 1000 ∧ ∀ (i : Int) H', 0 ≤ i → i < b → Same H H' → Q (.int i) H'
theorem ok_lawNumber (T : Txt K mg D) : FnOk P w K mg base CX0 2 (D.d 60).f (D.d 60).fd ["_law_cell", "_law_k", "_law_bound"] spNumber := by
  refine T.w60.F.ok scLawNumber (fun vs H Q E h => ?_) (fun cdv A outer s H vs Q E hr h => ?_)
  · obtain ⟨_, _, _, rfl, _⟩ := h
    rfl
  · obtain ⟨c, k, b, rfl, hb0, hb1, hk0, hk1, kk⟩ := h
    refine ⟨_, (pss_cons (ps_set (i := 3) scLawNumber.nd rfl (by first | exact Or.inl rfl | exact Or.inr rfl) pe_int)
      (pss_cons (ps_for PassesOwn.never rfl (pi_range1 (by rfl) T.range (pa_cons (pe_op op_mod (pe_callTy call_int1 (by rfl) T.int boot_int (pa_cons (pv 1) pa_nil)) pe_int) pa_nil)) (pg_name (i := 4) scLawNumber.nd rfl (by first | exact Or.inl rfl | exact Or.inr rfl)) (pss_one (ps_set (i := 3) scLawNumber.nd rfl (by first | exact Or.inl rfl | exact Or.inr rfl) (pe_op op_mul (pv 3) pe_int))))
      (pss_cons (ps_set (i := 5) scLawNumber.nd rfl (by first | exact Or.inl rfl | exact Or.inr rfl) (pe_op op_fdivW (pe_op op_sub (pv 0) (pe_op op_pow pe_int pe_int)) (pv 3)))
      (pss_cons (ps_if (pt_cmpR op_gt (pv 5) pe_int (nomark _)) (pss_one (ps_ret (pe_op op_mod (pe_op op_mod (pe_callTy call_int1 (by rfl) T.int boot_int (pa_cons (pv 5) pa_nil)) pe_int) (pv 2)))) pss_nil)
      (pss_cons (ps_set (i := 6) scLawNumber.nd rfl (by first | exact Or.inl rfl | exact Or.inr rfl) (pe_op op_mod (pe_callTy call_int1 (by rfl) T.int boot_int (pa_cons (pv 0) pa_nil)) pe_int))
      (pss_one (ps_ret (pe_op op_mod (pe_call (ok_lawDraw T) (hr.mono (by decide)) (by rfl) T.w59.m T.w59.F.kp T.w59.B .nil pass0 (pa_cons (pe_op op_mul (pe_op op_add (pv 6) (pe_op op_mul pe_int (pv 1))) (pe_op op_add (pe_op op_add (pv 6) (pe_op op_mul pe_int (pv 1))) pe_int)) (pa_cons (pe_op op_add (pe_op op_mod (pe_callTy call_int1 (by rfl) T.int boot_int (pa_cons (pv 1) pa_nil)) pe_int) pe_int) (pa_cons pe_int pa_nil)))) (pv 2))))))))), ?_⟩
    have hm : 0 ≤ k % 24 ∧ k % 24 < 24 := ⟨Int.emod_nonneg _ (by decide), Int.emod_lt_of_pos _ (by decide)⟩
    have big : ∀ i : Nat, i ≤ 24 → (0 : Int) < 1009 ^ i ∧ ((1009 : Int) ^ i).natAbs < 2 ^ 240 := fun i hi => by
      refine ⟨Int.pow_pos (by decide), ?_⟩
      rw [Int.natAbs_pow]
      exact Nat.lt_of_le_of_lt (Nat.pow_le_pow_right (by decide) hi) (by decide)
    refine ⟨_, rfl, .inl ⟨_, rfl, _, _, rfl, rfl, (show (0 : Int) < 24 by decide), _, rfl, by omega, by omega, ?_⟩⟩
    refine for_it (walk_range (lo := 0) (n := (k % 24).toNat)) (fun i σ Hx => ∃ z, σ = [some (.int c), some (.int k), some (.int b), some (.int (1009 ^ i)), z, none, none] ∧ Hx = H) ⟨none, rfl, rfl⟩ (fun i σ Hx _ _ => trivial) ?_ ?_
    · rintro i x σ Hx Hy hi ⟨z, rfl, rfl⟩ ⟨rfl, rfl⟩
      refine ⟨_, rfl, _, _, rfl, rfl, .inr ⟨by decide, by decide⟩, _, by rw [Int.pow_succ]; rfl, rfl⟩
    · rintro σ Hx ⟨z, rfl, rfl⟩
      obtain ⟨p0, p1⟩ := big (k % 24).toNat (by omega)
      generalize (1009 : Int) ^ (k % 24).toNat = p at p0 p1 ⊢
      refine ⟨_, rfl, _, _, rfl, rfl, ⟨by decide, by decide, by decide⟩, _, _, rfl, rfl, _, rfl, _, _, rfl, rfl, wide_div p0 p1 (by decide) (by decide), ?_⟩
      refine gn_st (σ' := [some (.int c), some (.int k), some (.int b), some (.int p), z, some (.int ((c - 10 ^ (18 : Int).toNat) / p)), none]) rfl ?_
      refine ⟨_, rfl, _, _, rfl, rfl, decide (0 < (c - 10 ^ (18 : Int).toNat) / p), rfl, ?_⟩
      by_cases hr0 : 0 < (c - 10 ^ (18 : Int).toNat) / p
      · rw [decide_eq_true hr0]
        refine iteT ⟨_, rfl, .inl ⟨_, rfl, _, _, rfl, rfl, (show (0 : Int) < 1009 by decide), _, rfl, _, _, rfl, rfl, hb0, ?_⟩⟩
        exact kk _ _ (Int.emod_nonneg _ (by omega)) (Int.emod_lt_of_pos _ hb0) (Same.refl _)
      · rw [decide_eq_false hr0]
        refine iteF ?_
        refine ⟨_, rfl, .inl ⟨_, rfl, _, _, rfl, rfl, (show (0 : Int) < 1000003 by decide), ?_⟩⟩
        have hs : 0 ≤ c % 1000003 ∧ c % 1000003 < 1000003 := ⟨Int.emod_nonneg _ (by decide), Int.emod_lt_of_pos _ (by decide)⟩
        refine gn_st (σ' := [some (.int c), some (.int k), some (.int b), some (.int p), z, some (.int ((c - 10 ^ (18 : Int).toNat) / p)), some (.int (c % 1000003))]) rfl ?_
        generalize c % 1000003 = sm at hs ⊢
        refine ⟨_, rfl, _, rfl, _, _, rfl, rfl, .inl ⟨by decide, by decide⟩, _, _, rfl, rfl, _, rfl, _, rfl, _, _, rfl, rfl, .inl ⟨by decide, by decide⟩, _, _, rfl, rfl, _, _, rfl, rfl, _, _, rfl, rfl, .inl ⟨by omega, by omega⟩, ?_⟩
        have h9 : 0 ≤ k % 9 ∧ k % 9 < 9 := ⟨Int.emod_nonneg _ (by decide), Int.emod_lt_of_pos _ (by decide)⟩
        refine ⟨_, rfl, .inl ⟨_, rfl, _, _, rfl, rfl, (show (0 : Int) < 9 by decide), _, _, rfl, rfl, ?_⟩⟩
        refine ⟨_, _, _, rfl, by decide, by decide, by omega, by omega, fun i H' h0 h1 sH => ?_⟩
        refine ⟨_, rfl, _, _, rfl, rfl, hb0, ?_⟩
        exact kk _ _ (Int.emod_nonneg _ (by omega)) (Int.emod_lt_of_pos _ hb0) sH
end
end K6
set_option Elab.async false
set_option linter.all false
set_option maxRecDepth 100000
set_option maxHeartbeats 4000000
namespace K6
open PySem PySem.Spec PyProof.Rows L2
/-- the draws: [script, 0, n] at d -/
structure DrawAt (H : Hp) (d sa : Addr) (ns : List Int) (n : Nat) : Prop where
  ne : sa ≠ d
  hd : H d = some (.lst [.ref sa, .int 0, .int n])
  hs : H sa = some (.lst (ns.map V.int))
theorem DrawAt.same {H H' : Hp} {d sa : Addr} {ns : List Int} {n : Nat} (s : Same H H') (h : DrawAt H d sa ns n) : DrawAt H' d sa ns n := ⟨h.ne, s _ _ h.hd, s _ _ h.hs⟩
theorem DrawAt.put {H : Hp} {d sa p : Addr} {ns : List Int} {n : Nat} {o : HO} (h : DrawAt H d sa ns n) (h1 : p ≠ d) (h2 : p ≠ sa) : DrawAt (upd H p o) d sa ns n := ⟨h.ne, by rw [upd_ne (Ne.symm h1)]; exact h.hd, by rw [upd_ne (Ne.symm h2)]; exact h.hs⟩
theorem da_put {H H1 : Hp} {d p : Addr} {o : HO} (s : Same (drp [d] H) H1) (n : H p = none) : Same (drp [d] H) (upd H1 p o) := fun b u e => by
  have e1 := drp_le _ _ e
  rw [upd_ne (ne_of_none e1 n)]
  exact s _ _ e
theorem sqL_off {K : PySem.W.Frag} {H : Hp} {t d : Addr} {xs : List V} (h : SqL K H t xs) (e : t ≠ d) : SqL K (drp [d] H) t xs := by
  have key : ∀ o, H t = some o → drp [d] H t = some o := fun o q => by rw [drp_not (by simpa using e)]; exact q
  rcases h with (h | ⟨o, h⟩) | h
  · exact .inl (.inl (key _ h))
  · exact .inl (.inr ⟨o, key _ h⟩)
  · exact .inr h
section
variable {P : Program} {w : World} {K : PySem.W.Frag} {mg : Str → Option Value} {base : Heap} {D : Ads}
def spNext : Sp := fun vs H Q _ => ∃ (d sa : Addr) (ns : List Int) (b : Int) (n : Nat), vs = [.ref d, .int b] ∧ DrawAt H d sa ns n ∧ 0 < b ∧ b < 1073741824 ∧ ∀ (i : Int) H' n', 0 ≤ i → i < b → Same (drp [d] H) H' → DrawAt H' d sa ns n' → Q (.int i) H'
theorem ok_lawNext (T : Txt K mg D) : FnOk P w K mg base CX0 3 (D.d 61).f (D.d 61).fd ["_law_draw_here", "_law_bound"] spNext := by
  refine T.w61.F.ok scLawNext (fun vs H Q E h => ?_) (fun cdv A outer s H vs Q E hr h => ?_)
  · obtain ⟨_, _, _, _, _, rfl, _⟩ := h
    rfl
  · obtain ⟨d, sa, ns, b, n, rfl, ⟨hne, hd, hs⟩, hb0, hb1, kk⟩ := h
    refine ⟨_, (pss_cons (ps_asg (pe_op op_add (pe_ix ix_list (pv 0) pe_int (fun _ _ => rfl)) pe_int) (pg_sub (pv 0) pe_int set_list))
      (pss_cons (ps_set (i := 2) scLawNext.nd rfl (by first | exact Or.inl rfl | exact Or.inr rfl) (pe_op op_fdiv (pe_ix ix_list (pv 0) pe_int (fun _ _ => rfl)) pe_int))
      (pss_cons (ps_set (i := 3) scLawNext.nd rfl (by first | exact Or.inl rfl | exact Or.inr rfl) (pe_op op_add (pe_call (ok_lawCellAt T) (hr.mono (by decide)) (by rfl) T.w58.m T.w58.F.kp T.w58.B .nil pass0 (pa_cons (pe_ix ix_list (pv 0) pe_int (fun _ _ => rfl)) (pa_cons (pe_op op_add (pe_ix ix_list (pv 0) pe_int (fun _ _ => rfl)) (pv 2)) pa_nil))) (pe_op op_mul pe_int (pv 2))))
      (pss_one (ps_ret (pe_call (ok_lawNumber T) (hr.mono (by decide)) (by rfl) T.w60.m T.w60.F.kp T.w60.B .nil pass0 (pa_cons (pv 3) (pa_cons (pe_op op_add (pe_op op_mod (pe_callTy call_int1 (by rfl) T.int boot_int (pa_cons (pe_ix ix_list (pv 0) pe_int (fun _ _ => rfl)) pa_nil)) pe_int) pe_int) (pa_cons (pv 1) pa_nil))))))))), ?_⟩
    refine ⟨_, rfl, d, _, _, .int n, rfl, rfl, SqL.of hd, at_of (j := 2) rfl rfl, _, _, rfl, rfl, ?_⟩
    refine ⟨_, rfl, d, _, _, 2, rfl, rfl, hd, rfl, ?_⟩
    have hs1 : (upd H d (.lst [.ref sa, .int 0, .int ((n + 1 : Nat) : Int)])) sa = some (.lst (ns.map V.int)) := by rw [upd_ne hne]; exact hs
    have hd1 : (upd H d (.lst [.ref sa, .int 0, .int ((n + 1 : Nat) : Int)])) d = some (.lst [.ref sa, .int 0, .int ((n + 1 : Nat) : Int)]) := upd_same
    have sd : Same (drp [d] H) (upd H d (.lst [.ref sa, .int 0, .int ((n + 1 : Nat) : Int)])) := da_upd
    change tSeq _ _ _ [some (.ref d), some (.int b), none, none] (upd H d (.lst [.ref sa, .int 0, .int ((n + 1 : Nat) : Int)]))
    generalize upd H d (.lst [.ref sa, .int 0, .int ((n + 1 : Nat) : Int)]) = H1 at hs1 hd1 sd ⊢
    refine ⟨_, rfl, d, _, _, .int ((n + 1 : Nat) : Int), rfl, rfl, SqL.of hd1, at_of (j := 2) rfl rfl, _, _, rfl, rfl, ⟨by decide, by decide⟩, ?_⟩
    obtain ⟨q, hq⟩ : ∃ q : Nat, ((n + 1 : Nat) : Int) / 12 = q := ⟨((n + 1) / 12 : Nat), by omega⟩
    refine gn_st (σ' := [some (.ref d), some (.int b), some (.int q), none]) (by rw [← hq]; rfl) ?_
    refine ⟨_, rfl, d, _, _, .ref sa, rfl, rfl, SqL.of hd1, at_of (j := 0) rfl rfl, ?_⟩
    refine ⟨_, rfl, d, _, _, .int 0, rfl, rfl, SqL.of hd1, at_of (j := 1) rfl rfl, _, rfl, _, _, rfl, rfl, ?_⟩
    refine ⟨sa, ns, q, by show [V.ref sa, V.int (0 + (q : Int))] = _; rw [Int.zero_add], SqL.of hs1, fun c _ => ?_⟩
    refine ⟨_, rfl, _, _, rfl, rfl, .inl ⟨by decide, by decide⟩, _, _, rfl, rfl, ?_⟩
    refine gn_st (σ' := [some (.ref d), some (.int b), some (.int q), some (.int (c + 31 * (q : Int)))]) rfl ?_
    have h12 : 0 ≤ ((n + 1 : Nat) : Int) % 12 ∧ ((n + 1 : Nat) : Int) % 12 < 12 := ⟨Int.emod_nonneg _ (by decide), Int.emod_lt_of_pos _ (by decide)⟩
    refine ⟨_, rfl, _, rfl, d, _, _, .int ((n + 1 : Nat) : Int), rfl, rfl, SqL.of hd1, at_of (j := 2) rfl rfl, .inl ⟨_, rfl, _, _, rfl, rfl, (show (0 : Int) < 12 by decide), _, _, rfl, rfl, _, rfl, ?_⟩⟩
    refine ⟨_, _, _, rfl, hb0, hb1, by omega, by omega, fun i H' i0 i1 s1 => ?_⟩
    exact kk i H' (n + 1) i0 i1 (sd.trans s1) ⟨hne, s1 _ _ hd1, s1 _ _ hs1⟩
def spPick (K : PySem.W.Frag) : Sp := fun vs H Q _ => ∃ (d t sa : Addr) (ns : List Int) (n : Nat) (xs : List V), vs = [.ref d, .ref t] ∧ DrawAt H d sa ns n ∧ SqL K H t xs ∧ t ≠ d ∧ 0 < xs.length ∧ xs.length < 1000 ∧ ∀ x H' n', x ∈ xs → Same (drp [d] H) H' → DrawAt H' d sa ns n' → Q x H'
theorem ok_lawPick (T : Txt K mg D) : FnOk P w K mg base CX0 4 (D.d 62).f (D.d 62).fd ["_law_draw_here", "_law_things"] (spPick K) := by
  refine T.w62.F.ok scLawPick (fun vs H Q E h => ?_) (fun cdv A outer s H vs Q E hr h => ?_)
  · obtain ⟨_, _, _, _, _, _, rfl, _⟩ := h
    rfl
  · obtain ⟨d, t, sa, ns, n, xs, rfl, hd, ht, hne, h0, h1, kk⟩ := h
    refine ⟨_, (pss_one (ps_ret (pe_ix ix_list (pv 1) (pe_call (ok_lawNext T) (hr.mono (by decide)) (by rfl) T.w61.m T.w61.F.kp T.w61.B .nil pass0 (pa_cons (pv 0) (pa_cons (pe_callB call_len_seq (by rfl) T.len boot_len (pa_cons (pv 1) pa_nil)) pa_nil))) (fun _ _ => rfl)))), ?_⟩
    refine ⟨_, rfl, _, rfl, _, rfl, _, _, rfl, .inl ht, ?_⟩
    refine ⟨d, sa, ns, _, n, rfl, hd, by omega, by omega, fun i H' n' i0 i1 s1 hd' => ?_⟩
    obtain ⟨j, rfl⟩ : ∃ j : Nat, i = j := ⟨i.toNat, by omega⟩
    have hj : j < xs.length := by omega
    have ht' := s1.seq (sqL_off ht hne)
    exact ⟨t, _, _, xs[j], rfl, rfl, ht', at_of (j := j) rfl (List.getElem?_eq_getElem hj), kk _ _ _ (List.getElem_mem hj) s1 hd'⟩
def spStep (K : PySem.W.Frag) : Sp := fun vs H Q _ => ∃ (d sa : Addr) (ns : List Int) (n : Nat), vs = [.ref d] ∧ DrawAt H d sa ns n ∧ ∀ v st H' n', Same (drp [d] H) H' → DrawAt H' d sa ns n' → Dp K H' v (stpD st) → Q v H'
theorem ok_lawStep (T : Txt K mg D) : FnOk P w K mg base CX0 5 (D.d 64).f (D.d 64).fd ["_law_draw_here"] (spStep K) := by
  refine T.w64.F.ok scLawStep (fun vs H Q E h => ?_) (fun cdv A outer s H vs Q E hr h => ?_)
  · obtain ⟨_, _, _, _, rfl, _⟩ := h
    rfl
  · obtain ⟨d, sa, ns, n, rfl, hd, kk⟩ := h
    refine ⟨_, (pss_cons (ps_set (i := 1) scLawStep.nd rfl (by first | exact Or.inl rfl | exact Or.inr rfl) (pe_call (ok_lawNext T) (hr.mono (by decide)) (by rfl) T.w61.m T.w61.F.kp T.w61.B .nil pass0 (pa_cons (pv 0) (pa_cons pe_int pa_nil))))
      (pss_cons (ps_if (pt_cmpR op_lt (pv 1) pe_int (nomark _)) (pss_one (ps_ret (pe_tup (pa_cons (pe_call (ok_lawPick T) (hr.mono (by decide)) (by rfl) T.w62.m T.w62.F.kp T.w62.B .nil pass0 (pa_cons (pv 0) (pa_cons (pe_lst (pa_cons pe_str (pa_cons pe_str (pa_cons pe_str pa_nil)))) pa_nil))) (pa_cons (pe_call (ok_lawPick T) (hr.mono (by decide)) (by rfl) T.w62.m T.w62.F.kp T.w62.B .nil pass0 (pa_cons (pv 0) (pa_cons (pe_lst (pa_cons pe_str (pa_cons pe_str (pa_cons pe_str pa_nil)))) pa_nil))) pa_nil))))) pss_nil)
      (pss_one (ps_ret (pe_ifExp (pt_cmpR op_eq (pv 1) pe_int (nomark _)) (pe_tup (pa_cons pe_str pa_nil)) (pe_tup (pa_cons pe_str (pa_cons (pe_call (ok_lawPick T) (hr.mono (by decide)) (by rfl) T.w62.m T.w62.F.kp T.w62.B .nil pass0 (pa_cons (pv 0) (pa_cons (pe_lst (pa_cons pe_str (pa_cons pe_str (pa_cons pe_str (pa_cons pe_str pa_nil))))) pa_nil))) pa_nil)))))))), ?_⟩
    refine ⟨_, rfl, d, sa, ns, 7, n, rfl, hd, by decide, by decide, fun i H1 n1 i0 i1 s1 hd1 => ?_⟩
    refine gn_st (σ' := [some (.ref d), some (.int i)]) rfl ?_
    refine ⟨_, rfl, _, _, rfl, rfl, decide (i < 4), rfl, ?_⟩
    have nD : ∀ {Hx : Hp} {m : Nat} {q : Addr}, DrawAt Hx d sa ns m → Hx q = none → q ≠ d := fun h e z => by
      rw [z, h.hd] at e; cases e
    by_cases h4 : i < 4
    · rw [decide_eq_true h4]
      refine iteT ?_
      refine ⟨_, rfl, by show 3 ≤ sizeLine; decide, fun q hq => ?_⟩
      refine ⟨d, q, sa, ns, n1, [.str "cross", .str "cross", .str "mirror"], rfl, hd1.same (same_new hq), SqL.of upd_same, nD hd1 hq, by decide, by decide, fun x H2 n2 hx s2 hd2 => ?_⟩
      refine ⟨_, rfl, by show 3 ≤ sizeLine; decide, fun q2 hq2 => ?_⟩
      refine ⟨d, q2, sa, ns, n2, [.str "up", .str "up", .str "down"], rfl, hd2.same (same_new hq2), SqL.of upd_same, nD hd2 hq2, by decide, by decide, fun y H3 n3 hy s3 hd3 => ?_⟩
      refine ⟨small2, fun q3 hq3 => ?_⟩
      have ex : ∃ b, x = .str (kindS b) := by
        simp at hx
        rcases hx with rfl | rfl
        · exact ⟨true, rfl⟩
        · exact ⟨false, rfl⟩
      have ey : ∃ b, y = .str (ordS b) := by
        simp at hy
        rcases hy with rfl | rfl
        · exact ⟨true, rfl⟩
        · exact ⟨false, rfl⟩
      obtain ⟨bx, rfl⟩ := ex
      obtain ⟨b', rfl⟩ := ey
      have z2 := da_trans (da_trans s1 (drp_le.trans (same_new hq))) s2
      have z4 := da_trans (da_trans z2 (drp_le.trans (same_new hq2))) s3
      exact kk _ (.cmp bx b') _ n3 (da_trans z4 (drp_le.trans (same_new hq3))) (hd3.same (same_new hq3)) (.tup (SqT.of upd_same) (.cons (.str _) (.cons (.str _) .nil)))
    · rw [decide_eq_false h4]
      refine iteF ?_
      refine ⟨_, rfl, rfl, decide (i = 4), congrArg V.bl (by rw [dec_int, Bool.eq_iff_iff]; simp), ?_⟩
      by_cases h5 : i = 4
      · rw [decide_eq_true h5]
        refine iteT ⟨by show 1 ≤ sizeLine; decide, fun q hq => ?_⟩
        exact kk _ .swap _ n1 (da_trans s1 (drp_le.trans (same_new hq))) (hd1.same (same_new hq)) (.tup (SqT.of upd_same) (.cons (.str _) .nil))
      · rw [decide_eq_false h5]
        refine iteF ?_
        refine ⟨_, rfl, by show 4 ≤ sizeLine; decide, fun q hq => ?_⟩
        refine ⟨d, q, sa, ns, n1, [.str "left", .str "right", .str "both", .str "all"], rfl, hd1.same (same_new hq), SqL.of upd_same, nD hd1 hq, by decide, by decide, fun x H2 n2 hx s2 hd2 => ?_⟩
        refine ⟨small2, fun q3 hq3 => ?_⟩
        have ex : ∃ b, x = .str (sdS b) := by
          simp at hx
          rcases hx with rfl | rfl | rfl | rfl
          · exact ⟨.left, rfl⟩
          · exact ⟨.right, rfl⟩
          · exact ⟨.both, rfl⟩
          · exact ⟨.all, rfl⟩
        obtain ⟨bx, rfl⟩ := ex
        have z2 := da_trans (da_trans s1 (drp_le.trans (same_new hq))) s2
        exact kk _ (.flip bx) _ n2 (da_trans z2 (drp_le.trans (same_new hq3))) (hd2.same (same_new hq3)) (.tup (SqT.of upd_same) (.cons (.str _) (.cons (.str _) .nil)))
end
end K6
set_option Elab.async false
set_option linter.all false
set_option maxRecDepth 100000
set_option maxHeartbeats 4000000
namespace K6
open PySem PySem.Spec PyProof.Rows L2
theorem asg_join {te : TE} {g : TG} {D : Ends} {σ : L2.St} {H : Hp} (Good : V → Hp → Prop) (h : ∀ Q : VK, (∀ v H', Good v H' → Q v H') → te σ H Q) (k : ∀ v H', Good v H' → g v σ H' fun σ' H'' => D.nx σ' H'') : tAsg te g D σ H := h _ k
theorem seq_join {te : TE} {g : TG} {tr : TS} {D : Ends} {σ : L2.St} {H : Hp} (Good : V → Hp → Prop) (h : ∀ Q : VK, (∀ v H', Good v H' → Q v H') → te σ H Q) (k : ∀ v H', Good v H' → g v σ H' fun σ' H'' => tr D σ' H'') : tSeq (tAsg te g) tr D σ H := h _ k
theorem off_da {ls : List Addr} {d : Addr} {H H1 : Hp} (s : Same (drp [d] H) H1) (hd : d ∈ ls) : Same (drp ls H) (drp ls H1) := fun b u e => by
  have hl : b ∉ ls := fun q => by rw [drp_in q] at e; cases e
  rw [drp_not hl] at e
  rw [drp_not hl]
  have hb : b ∉ [d] := fun q => hl (by rw [List.mem_singleton.mp q]; exact hd)
  exact s b u (by rw [drp_not hb]; exact e)
abbrev StpR (K : PySem.W.Frag) : Hp → V → Stp → Prop := fun H v s => Dp K H v (stpD s)
abbrev CallR' (K : PySem.W.Frag) : Hp → V → Option (Nat × Bool) → Prop := fun H v c => Dp K H v (callD c)
theorem dpAll_of_all {α : Type} {K : PySem.W.Frag} {f : α → PyData} {H : Hp} : ∀ {vs : List V} {as : List α}, AllR (fun H v a => Dp K H v (f a)) H vs as → DpAll K H vs (as.map f)
  | [], [], _ => .nil
  | [], _ :: _, h => by have := h.1; simp at this
  | _ :: _, [], h => by have := h.1; simp at this
  | v :: vs, a :: as, h => by
    obtain ⟨a', e, h0⟩ := h.2 0 v rfl
    cases Option.some.inj e
    refine .cons h0 (dpAll_of_all (vs := vs) (as := as) ⟨by simpa using h.1, fun i y e => ?_⟩)
    obtain ⟨b, e1, e2⟩ := h.2 (i + 1) y (by simpa using e)
    exact ⟨b, by simpa using e1, e2⟩
section
variable {P : Program} {w : World} {K : PySem.W.Frag} {mg : Str → Option Value} {base : Heap} {D : Ads}
def spLoom (K : PySem.W.Frag) : Sp := fun vs H Q _ => ∃ (d nm sa : Addr) (ns : List Int) (n m : Nat), vs = [.ref d, .ref nm] ∧ DrawAt H d sa ns n ∧ SqL K H nm ((List.range m).map fun i => V.str (nmS i)) ∧ nm ≠ d ∧ 0 < m ∧ m ≤ 3 ∧
  ∀ v lm H' n', Same (drp [d] H) H' → DrawAt H' d sa ns n' → Dp K H' v (loomD lm) → lm.steps.length ≤ 3 → (∀ s c, lm.call s = some c → c.1 < m) → Q v H'
theorem ok_lawLoom (T : Txt K mg D) : FnOk P w K mg base CX0 6 (D.d 65).f (D.d 65).fd ["_law_draw_here", "_law_names"] (spLoom K) := by
  refine T.w65.F.ok scLawLoom (fun vs H Q E h => ?_) (fun cdv A outer s H vs Q E hr h => ?_)
  · obtain ⟨_, _, _, _, _, _, rfl, _⟩ := h
    rfl
  · obtain ⟨d, nm, sa, ns, n, m, rfl, hd, hnm, hne, m0, m3, kk⟩ := h
    refine ⟨_, (pss_cons (ps_set (i := 2) scLawLoom.nd rfl (by first | exact Or.inl rfl | exact Or.inr rfl) (pe_ifExp (pt_cmpR op_gt (pe_call (ok_lawNext T) (hr.mono (by decide)) (by rfl) T.w61.m T.w61.F.kp T.w61.B .nil pass0 (pa_cons (pv 0) (pa_cons pe_int pa_nil))) pe_int (nomark _)) (pe_tup (pa_cons (pe_call (ok_lawPick T) (hr.mono (by decide)) (by rfl) T.w62.m T.w62.F.kp T.w62.B .nil pass0 (pa_cons (pv 0) (pa_cons (pe_lst (pa_cons (pe_tup (pa_cons pe_str (pa_cons pe_str pa_nil))) (pa_cons (pe_tup (pa_cons pe_str (pa_cons pe_str pa_nil))) (pa_cons (pe_tup (pa_cons pe_str (pa_cons pe_str pa_nil))) pa_nil)))) pa_nil))) pa_nil)) (pe_callTy call_tuple_of (by rfl) T.tuple boot_tuple (pa_cons (pe_lc (own := [("_law_turn", 4)]) (by rfl) scLawLoom.nd (pi_range1 (by rfl) T.range (pa_cons (pe_call (ok_lawNext T) (hr.mono (by decide)) (by rfl) T.w61.m T.w61.F.kp T.w61.B .nil pass0 (pa_cons (pv 0) (pa_cons pe_int pa_nil))) pa_nil)) (blkOk_by (own := [("_law_turn", 4)]) (N := ["_law_draw_here", "_law_names", "_law_steps", "_law_calls", "_law_turn"]) (sc := defScope sLawLoom) (by decide +kernel)) (fun _ _ _ _ _ => (pg_name (i := 4) scLawLoom.nd rfl (by first | exact Or.inl rfl | exact Or.inr rfl))) (fun _ _ _ _ _ => pts_nil) (fun _ _ _ _ _ => (pe_call (ok_lawStep T) (hr.mono (by decide)) (by rfl) T.w64.m T.w64.F.kp T.w64.B .nil pass0 (pa_cons (pv 0) pa_nil)))) pa_nil))))
      (pss_cons (ps_setLc (i := 3) (own := [("_law_turn", 4)]) (by rfl) scLawLoom.nd rfl rfl (sw_true rfl rfl rfl (by decide +kernel)) (pi_range1 (by rfl) T.range (pa_cons pe_int pa_nil)) (blkOk_by (own := [("_law_turn", 4)]) (N := ["_law_draw_here", "_law_names", "_law_steps", "_law_calls", "_law_turn"]) (sc := defScope sLawLoom) (by decide +kernel)) (fun _ _ _ _ _ => (pg_name (i := 4) scLawLoom.nd rfl (by first | exact Or.inl rfl | exact Or.inr rfl))) (fun _ _ _ _ _ => pts_nil) (fun _ _ _ _ _ => (pe_ifExp (pt_cmpR op_eq (pe_call (ok_lawNext T) (hr.mono (by decide)) (by rfl) T.w61.m T.w61.F.kp T.w61.B .nil pass0 (pa_cons (pv 0) (pa_cons pe_int pa_nil))) pe_int (nomark _)) pe_non (pe_tup (pa_cons (pe_call (ok_lawPick T) (hr.mono (by decide)) (by rfl) T.w62.m T.w62.F.kp T.w62.B .nil pass0 (pa_cons (pv 0) (pa_cons (pv 1) pa_nil))) (pa_cons (pe_cmpR op_eq (pe_call (ok_lawNext T) (hr.mono (by decide)) (by rfl) T.w61.m T.w61.F.kp T.w61.B .nil pass0 (pa_cons (pv 0) (pa_cons pe_int pa_nil))) pe_int (nomark _)) pa_nil))))))
      (pss_one (ps_ret (pe_tup (pa_cons (pv 2) (pa_cons (pe_ix ix_list (pv 3) pe_int (fun _ _ => rfl)) (pa_cons (pe_ix ix_list (pv 3) pe_int (fun _ _ => rfl)) pa_nil)))))))), ?_⟩
    have zl : sizeLine = 16777216 := sizeLine_eq
    have dl : ∀ {Hx : Hp} {i : Nat}, DrawAt Hx d sa ns i → ∃ o, Hx d = some o ∧ isTup o = false := fun h => ⟨_, h.hd, rfl⟩
    have nD : ∀ {Hx : Hp} {i : Nat} {q : Addr}, DrawAt Hx d sa ns i → Hx q = none → q ≠ d ∧ q ≠ sa := fun h e => ⟨fun z => (by rw [z, h.hd] at e; cases e), fun z => (by rw [z, h.hs] at e; cases e)⟩
    refine asg_join (fun v H' => ∃ (st : List Stp) (n' : Nat), Same (drp [d] H) H' ∧ DrawAt H' d sa ns n' ∧ Dp K H' v (stpsD st) ∧ st.length ≤ 3) (fun G hG => ?_) ?_
    · refine ⟨_, rfl, d, sa, ns, 3, n, rfl, hd, by decide, by decide, fun i H1 n1 i0 i1 s1 hd1 => ?_⟩
      refine ⟨_, _, rfl, rfl, decide (0 < i), rfl, ?_⟩
      by_cases hi : 0 < i
      · rw [decide_eq_true hi]
        refine iteT ?_
        refine ⟨_, rfl, small2, fun q1 hq1 => ⟨small2, fun q2 hq2 => ⟨small2, fun q3 hq3 => ⟨small3, fun q hq => ?_⟩⟩⟩⟩
        have t1 := same_new (o := .tup [.str "cross", .str "up"]) hq1
        have t2 := same_new (o := .tup [.str "cross", .str "up"]) hq2
        have t3 := same_new (o := .tup [.str "mirror", .str "up"]) hq3
        have t4 := same_new (o := .lst [.ref q1, .ref q2, .ref q3]) hq
        have tA := ((t1.trans t2).trans t3).trans t4
        have c1 : Dp K (upd (upd (upd (upd H1 q1 (.tup [.str "cross", .str "up"])) q2 (.tup [.str "cross", .str "up"])) q3 (.tup [.str "mirror", .str "up"])) q (.lst [.ref q1, .ref q2, .ref q3])) (.ref q1) (stpD (.cmp true true)) := .tup (SqT.of (t4 _ _ (t3 _ _ (t2 _ _ upd_same)))) (.cons (.str _) (.cons (.str _) .nil))
        have c2 : Dp K (upd (upd (upd (upd H1 q1 (.tup [.str "cross", .str "up"])) q2 (.tup [.str "cross", .str "up"])) q3 (.tup [.str "mirror", .str "up"])) q (.lst [.ref q1, .ref q2, .ref q3])) (.ref q2) (stpD (.cmp true true)) := .tup (SqT.of (t4 _ _ (t3 _ _ upd_same))) (.cons (.str _) (.cons (.str _) .nil))
        have c3 : Dp K (upd (upd (upd (upd H1 q1 (.tup [.str "cross", .str "up"])) q2 (.tup [.str "cross", .str "up"])) q3 (.tup [.str "mirror", .str "up"])) q (.lst [.ref q1, .ref q2, .ref q3])) (.ref q3) (stpD (.cmp false true)) := .tup (SqT.of (t4 _ _ upd_same)) (.cons (.str _) (.cons (.str _) .nil))
        have hq9 : (upd (upd (upd (upd H1 q1 (.tup [.str "cross", .str "up"])) q2 (.tup [.str "cross", .str "up"])) q3 (.tup [.str "mirror", .str "up"])) q (.lst [.ref q1, .ref q2, .ref q3])) q = some (.lst [.ref q1, .ref q2, .ref q3]) := upd_same
        have hqd := (nD ((((hd1.same t1).same t2).same t3)) hq).1
        have hdA := hd1.same tA
        generalize upd (upd (upd (upd H1 q1 (.tup [.str "cross", .str "up"])) q2 (.tup [.str "cross", .str "up"])) q3 (.tup [.str "mirror", .str "up"])) q (.lst [.ref q1, .ref q2, .ref q3]) = HA at tA c1 c2 c3 hq9 hdA ⊢
        refine ⟨d, q, sa, ns, n1, [.ref q1, .ref q2, .ref q3], rfl, hdA, SqL.of hq9, hqd, by show 0 < 3; decide, by show 3 < 1000; decide, fun x H2 n2 hx s2 hd2 => ?_⟩
        refine ⟨by show 1 ≤ sizeLine; omega, fun p hp => ?_⟩
        have hst : ∃ st : Stp, Dp K HA x (stpD st) := by
          simp at hx
          rcases hx with rfl | rfl | rfl
          · exact ⟨_, c1⟩
          · exact ⟨_, c2⟩
          · exact ⟨_, c3⟩
        obtain ⟨st, hst⟩ := hst
        have hst2 : Dp K H2 x (stpD st) := (dp_off (ls := [d]) (fun l hl => by rw [List.mem_singleton.mp hl]; exact dl hdA) (noL_stp st) hst).mono s2
        have t5 := same_new (o := .tup [x]) hp
        exact hG _ _ ⟨[st], n2, da_trans (da_trans s1 (drp_le.trans tA)) s2 |>.trans t5, hd2.same t5, .tup (SqT.of upd_same) (.cons (hst2.mono t5) .nil), by show 1 ≤ 3; decide⟩
      · rw [decide_eq_false hi]
        refine iteF ?_
        refine ⟨_, rfl, d, sa, ns, 4, n1, rfl, hd1, by decide, by decide, fun i2 H2 n2 j0 j1 s2 hd2 => ?_⟩
        have s12 := da_trans s1 s2
        refine ⟨i2, rfl, by omega, by omega, fun D1 hD1 => ?_⟩
        obtain ⟨nd, nsa⟩ := nD hd2 hD1
        refine lc_it (walk_range (lo := 0) (n := i2.toNat)) (fun i Hx => ∃ acc sts n', Same (drp [d] H2) Hx ∧ DrawAt Hx d sa ns n' ∧ Hx D1 = some (.lst acc) ∧ AllR (StpR K) (drp [d, D1] Hx) acc sts ∧ acc.length = i) ⟨[], [], n2, da_put drp_le hD1, hd2.put nd nsa, upd_same, .nil, rfl⟩ (fun i Hx _ _ => trivial) ?_ ?_
        · rintro i x Hx' Hx hi ⟨acc, sts, n', sx, hdx, hDx, hA, hl⟩ ⟨rfl, rfl⟩
          refine ⟨rfl, _, rfl, d, sa, ns, n', rfl, hdx, fun y st H4 n4 s4 hd4 hy => ?_⟩
          have hD4 := da_get s4 hDx nd
          have ml : ∀ l ∈ [d, D1], ∃ o, H4 l = some o ∧ isTup o = false := fun l hl => by
            rcases List.mem_cons.mp hl with e | e
            · rw [e]; exact dl hd4
            · rw [List.mem_singleton.mp e]; exact ⟨_, hD4, rfl⟩
          refine ⟨acc, hD4, by omega, acc ++ [y], sts ++ [st], n4, da_put (da_trans sx s4) hD1, hd4.put nd nsa, upd_same, ?_, by simp [hl]⟩
          rw [drp_upd (by simp)]
          exact (hA.mono (fun _ _ _ _ s h => h.mono s) (off_da s4 (by simp))).snoc (dp_off ml (noL_stp st) hy)
        · rintro Hx ⟨acc, sts, n', sx, hdx, hDx, hA, hl⟩
          refine ⟨D1, acc, rfl, .inl ⟨SqL.of hDx, fun p hp => ?_⟩⟩
          have t5 := same_new (o := .tup acc) hp
          have hA2 : AllR (StpR K) (upd Hx p (.tup acc)) acc sts := hA.mono (fun _ _ _ _ s h => h.mono s) (drp_le.trans t5)
          exact hG _ _ ⟨sts, n', (da_trans s12 sx).trans t5, hdx.same t5, .tup (SqT.of upd_same) (dpAll_of_all hA2), by have := hA.1; omega⟩
    · rintro stv H1 ⟨st, n1, s1, hd1, hst, hst3⟩
      refine gn_st (σ' := [some (.ref d), some (.ref nm), some stv, none, none]) rfl ?_
      have hnm1 : ∀ {Hx}, Same (drp [d] H) Hx → SqL K Hx nm ((List.range m).map fun i => V.str (nmS i)) := fun s => s.seq (sqL_off hnm hne)
      dsimp only
      refine seq_join (fun v H' => ∃ (p : Addr) (v0 v1 : V) (c0 c1 : Option (Nat × Bool)) (n' : Nat), v = .ref p ∧ p ≠ d ∧ Same (drp [d] H1) H' ∧ DrawAt H' d sa ns n' ∧ H' p = some (.lst [v0, v1]) ∧ Dp K H' v0 (callD c0) ∧ Dp K H' v1 (callD c1) ∧ (∀ x, c0 = some x → x.1 < m) ∧ ∀ x, c1 = some x → x.1 < m) (fun G hG => ?_) ?_
      · refine ⟨2, rfl, by decide, by decide, fun D1 hD1 => ?_⟩
        obtain ⟨nd, nsa⟩ := nD hd1 hD1
        refine lc_it (walk_range (lo := 0) (n := (2 : Int).toNat)) (fun i Hx => ∃ acc cs n', Same (drp [d] H1) Hx ∧ DrawAt Hx d sa ns n' ∧ Hx D1 = some (.lst acc) ∧ AllR (CallR' K) (drp [d, D1] Hx) acc cs ∧ acc.length = i ∧ ∀ c ∈ cs, ∀ x, c = some x → x.1 < m) ⟨[], [], n1, da_put drp_le hD1, hd1.put nd nsa, upd_same, .nil, rfl, fun c h => by simp at h⟩ (fun i Hx _ _ => trivial) ?_ ?_
        · rintro i x Hx' Hx hi ⟨acc, cs, n', sx, hdx, hDx, hA, hl, hc⟩ ⟨rfl, rfl⟩
          have hi2 : i < 2 := hi
          -- what an element must show
          have fin : ∀ y c H4 n4, Same (drp [d] Hx) H4 → DrawAt H4 d sa ns n4 → Dp K H4 y (callD c) → (∀ x, c = some x → x.1 < m) → ∃ acc', H4 D1 = some (.lst acc') ∧ acc'.length < sizeLine ∧ ∃ acc cs n', Same (drp [d] H1) (upd H4 D1 (.lst (acc' ++ [y]))) ∧ DrawAt (upd H4 D1 (.lst (acc' ++ [y]))) d sa ns n' ∧ (upd H4 D1 (.lst (acc' ++ [y]))) D1 = some (.lst acc) ∧ AllR (CallR' K) (drp [d, D1] (upd H4 D1 (.lst (acc' ++ [y])))) acc cs ∧ acc.length = i + 1 ∧ ∀ c ∈ cs, ∀ x, c = some x → x.1 < m := fun y c H4 n4 s4 hd4 hy hcm => by
            have hD4 := da_get s4 hDx nd
            have ml : ∀ l ∈ [d, D1], ∃ o, H4 l = some o ∧ isTup o = false := fun l hl => by
              rcases List.mem_cons.mp hl with e | e
              · rw [e]; exact dl hd4
              · rw [List.mem_singleton.mp e]; exact ⟨_, hD4, rfl⟩
            refine ⟨acc, hD4, by omega, acc ++ [y], cs ++ [c], n4, da_put (da_trans sx s4) hD1, hd4.put nd nsa, upd_same, ?_, by simp [hl], fun c' hc' x e => ?_⟩
            · rw [drp_upd (by simp)]
              exact (hA.mono (fun _ _ _ _ s h => h.mono s) (off_da s4 (by simp))).snoc (dp_off ml (noL_call c) hy)
            · rcases List.mem_append.mp hc' with q | q
              · exact hc c' q x e
              · rw [List.mem_singleton.mp q] at e; exact hcm x e
          refine ⟨rfl, _, rfl, d, sa, ns, 8, n', rfl, hdx, by decide, by decide, fun i2 H2 n2 j0 j1 s2 hd2 => ?_⟩
          refine ⟨rfl, decide (i2 = 0), congrArg V.bl (by rw [dec_int, Bool.eq_iff_iff]; simp), ?_⟩
          by_cases h0 : i2 = 0
          · rw [decide_eq_true h0]
            exact iteT (fin .non none H2 n2 s2 hd2 .non (fun x e => by cases e))
          · rw [decide_eq_false h0]
            refine iteF ?_
            refine ⟨_, rfl, _, rfl, d, nm, sa, ns, n2, _, rfl, hd2, hnm1 (da_trans (da_trans s1 sx) s2), hne, by simpa using m0, by rw [List.length_map, List.length_range]; omega, fun x H3 n3 hx s3 hd3 => ?_⟩
            refine ⟨_, rfl, d, sa, ns, 5, n3, rfl, hd3, by decide, by decide, fun i3 H4 n4 k0 k1 s4 hd4 => ?_⟩
            refine ⟨rfl, small2, fun q hq => ?_⟩
            obtain ⟨ix, hix, rfl⟩ := List.mem_map.mp hx
            have t5 := same_new (o := .tup [V.str (nmS ix), .bl (decide (V.int i3 = V.int 0))]) hq
            exact fin (.ref q) (some (ix, decide (V.int i3 = V.int 0))) _ n4 ((da_trans (da_trans s2 s3) s4).trans t5) (hd4.same t5) (.tup (SqT.of upd_same) (.cons (.str _) (.cons (.bl _) .nil))) (fun x e => by cases e; exact List.mem_range.mp hix)
        · rintro Hx ⟨acc, cs, n', sx, hdx, hDx, hA, hl, hc⟩
          have hl2 : acc.length = 2 := hl
          match acc, cs, hl2, hA, hc, hDx with
          | [v0, v1], cs, _, hA, hc, hDx =>
            have hcl : cs.length = 2 := hA.1.symm
            match cs, hcl, hA, hc with
            | [c0, c1], _, hA, hc =>
              obtain ⟨_, e0, h0⟩ := hA.2 0 v0 rfl
              cases Option.some.inj e0
              obtain ⟨_, e1, h1⟩ := hA.2 1 v1 rfl
              cases Option.some.inj e1
              exact hG _ _ ⟨D1, v0, v1, c0, c1, n', rfl, nd, sx, hdx, hDx, h0.mono drp_le, h1.mono drp_le, hc c0 (by simp), hc c1 (by simp)⟩
      · rintro v H2 ⟨p, v0, v1, c0, c1, n2, rfl, hpd, s2, hd2, hp, k0, k1, b0, b1⟩
        refine gn_st (σ' := [some (.ref d), some (.ref nm), some stv, some (.ref p), none]) rfl ?_
        refine ⟨_, rfl, _, rfl, p, _, _, v0, rfl, rfl, SqL.of hp, at_of (j := 0) rfl rfl, _, rfl, p, _, _, v1, rfl, rfl, SqL.of hp, at_of (j := 1) rfl rfl, small3, fun q hq => ?_⟩
        have t5 := same_new (o := .tup [stv, v0, v1]) hq
        have hst2 : Dp K H2 stv (stpsD st) := (dp_off (ls := [d]) (fun l hl => by rw [List.mem_singleton.mp hl]; exact dl hd1) (noL_stps st) hst).mono s2
        refine kk _ ⟨st, c0, c1⟩ _ n2 ((da_trans s1 s2).trans t5) (hd2.same t5) (.tup (SqT.of upd_same) (.cons (hst2.mono t5) (.cons (k0.mono t5) (.cons (k1.mono t5) .nil)))) hst3 fun s c e => ?_
        cases s with
        | true => exact b1 c e
        | false => exact b0 c e
end
end K6
set_option linter.all false
namespace K6
/-! ### the halves in place -/
/-- the whole row behind i exchanges -/
def whl (x up : Bool) (l q : List Int) (i : Nat) : List Int := (((List.zipWith (ordP up) l q).take i).map Prod.fst ++ l.drop i) ++ flipIf (!x) (((List.zipWith (ordP up) l q).take i).map Prod.snd ++ q.drop i)
theorem flipIf_twice {α : Type} (t : Bool) (l : List α) : flipIf t (flipIf t l) = l := by cases t <;> simp [flipIf]
theorem whl_zero (x up : Bool) (l r : List Int) : whl x up l (flipIf (!x) r) 0 = l ++ r := by
  unfold whl
  simp [flipIf_twice]
theorem whl_end {x up : Bool} {l r : List Int} (h : l.length = r.length) : whl x up l (flipIf (!x) r) l.length = (stepR (.cmp x up) (l, r)).1 ++ (stepR (.cmp x up) (l, r)).2 ∧ (stepR (.cmp x up) (l, r)).1.length = l.length := by
  have hz : (List.zipWith (ordP up) l (flipIf (!x) r)).length = l.length := by rw [List.length_zipWith, length_flipIf]; omega
  have e1 : (List.zipWith (ordP up) l (flipIf (!x) r)).take l.length = List.zipWith (ordP up) l (flipIf (!x) r) := List.take_of_length_le (by omega)
  have e2 : l.drop l.length = [] := List.drop_length
  have e3 : (flipIf (!x) r).drop l.length = [] := List.drop_eq_nil_of_le (by rw [length_flipIf]; omega)
  unfold whl
  rw [e1, e2, e3, List.append_nil, List.append_nil]
  exact ⟨rfl, by show ((List.zipWith (ordP up) l (flipIf (!x) r)).map Prod.fst).length = _; rw [List.length_map, hz]⟩
theorem half_set {α β : Type} {f : β → α} {z : List β} {l : List α} {i : Nat} {b : β} (hi : i < l.length) (hz : z[i]? = some b) : ((z.take i).map f ++ l.drop i).set i (f b) = (z.take (i + 1)).map f ++ l.drop (i + 1) := by
  have hl : ((z.take i).map f).length = i := by
    have := (List.getElem?_eq_some_iff.mp hz).1
    rw [List.length_map, List.length_take]; omega
  rw [List.set_append_right _ _ (by omega), hl, Nat.sub_self, List.drop_eq_getElem_cons hi, List.set_cons_zero, List.take_add_one, hz]
  simp
theorem half_get {α β : Type} {f : β → α} {z : List β} {l : List α} {i : Nat} {b : β} (hz : z[i]? = some b) : ((z.take i).map f ++ l.drop i)[i]? = l[i]? := by
  have hl : ((z.take i).map f).length = i := by
    have := (List.getElem?_eq_some_iff.mp hz).1
    rw [List.length_map, List.length_take]; omega
  rw [List.getElem?_append_right (by omega), hl, Nat.sub_self, List.getElem?_drop]; simp
theorem half_len {α β : Type} {f : β → α} {z : List β} {l : List α} {i : Nat} (h : z.length = l.length) : ((z.take i).map f ++ l.drop i).length = l.length := by
  simp; omega
theorem rev_set {α : Type} (l : List α) (i : Nat) (v : α) (h : i < l.length) : l.reverse.set (l.length - 1 - i) v = (l.set i v).reverse := by
  refine List.ext_getElem? fun k => ?_
  by_cases hk : k < l.length
  · rw [List.getElem?_set, List.getElem?_reverse hk, List.getElem?_reverse (by simpa using hk), List.getElem?_set, List.length_set, List.length_reverse]
    by_cases e : l.length - 1 - i = k
    · rw [if_pos e, if_pos (by omega), if_pos (by omega), if_pos (by omega)]
    · rw [if_neg e, if_neg (by omega)]
  · rw [List.getElem?_eq_none (by rw [List.length_set, List.length_reverse]; omega), List.getElem?_eq_none (by rw [List.length_reverse, List.length_set]; omega)]
/-- the place of the other cell -/
def oth (x : Bool) (h i : Nat) : Nat := if x then i + h else 2 * h - 1 - i
theorem whl_step {x up : Bool} {l q : List Int} {i : Nat} {a b : Int} (h : l.length = q.length) (ha : l[i]? = some a) (hb : q[i]? = some b) :
    (whl x up l q i)[i]? = some a ∧ (whl x up l q i)[oth x l.length i]? = some b ∧ ((whl x up l q i).set i (ordP up a b).1).set (oth x l.length i) (ordP up a b).2 = whl x up l q (i + 1) := by
  have hi : i < l.length := (List.getElem?_eq_some_iff.mp ha).1
  have hz : (List.zipWith (ordP up) l q)[i]? = some (ordP up a b) := by rw [List.getElem?_zipWith, ha, hb]
  have hlz : (List.zipWith (ordP up) l q).length = l.length := by rw [List.length_zipWith]; omega
  have hA := half_len (f := Prod.fst) (i := i) hlz
  have hB := half_len (f := Prod.snd) (z := List.zipWith (ordP up) l q) (l := q) (i := i) (by omega)
  have gA := half_get (f := Prod.fst) (l := l) hz
  have gB := half_get (f := Prod.snd) (l := q) hz
  have sA := half_set (f := Prod.fst) hi hz
  have sB := half_set (f := Prod.snd) (l := q) (by omega) hz
  unfold whl
  generalize ((List.zipWith (ordP up) l q).take i).map Prod.fst ++ l.drop i = A at hA gA sA ⊢
  generalize ((List.zipWith (ordP up) l q).take i).map Prod.snd ++ q.drop i = B at hB gB sB ⊢
  rw [← sA, ← sB]
  refine ⟨by rw [List.getElem?_append_left (by omega), gA, ha], ?_, ?_⟩
  · cases x with
    | true =>
      show (A ++ B)[i + l.length]? = _
      rw [List.getElem?_append_right (by omega), hA, Nat.add_sub_cancel, gB, hb]
    | false =>
      show (A ++ B.reverse)[2 * l.length - 1 - i]? = _
      rw [List.getElem?_append_right (by omega), List.getElem?_reverse (by omega), hA, hB]
      have e : q.length - 1 - (2 * l.length - 1 - i - l.length) = i := by omega
      rw [e, gB, hb]
  · rw [List.set_append_left _ _ (by omega)]
    cases x with
    | true =>
      show (A.set i _ ++ B).set (i + l.length) _ = A.set i _ ++ B.set i _
      rw [List.set_append_right _ _ (by rw [List.length_set]; omega), List.length_set, hA, Nat.add_sub_cancel]
    | false =>
      show (A.set i _ ++ B.reverse).set (2 * l.length - 1 - i) _ = A.set i _ ++ (B.set i _).reverse
      rw [List.set_append_right _ _ (by rw [List.length_set]; omega), List.length_set, hA, ← rev_set B i _ (by omega), hB]
      have e : 2 * l.length - 1 - i - l.length = q.length - 1 - i := by omega
      rw [e]
theorem whl_len {x up : Bool} {l q : List Int} {i : Nat} (h : l.length = q.length) : (whl x up l q i).length = 2 * l.length := by
  have hlz : (List.zipWith (ordP up) l q).length = l.length := by rw [List.length_zipWith]; omega
  unfold whl
  rw [List.length_append, length_flipIf, half_len hlz, half_len (by omega)]; omega
end K6
set_option Elab.async false
set_option linter.all false
set_option maxRecDepth 100000
set_option maxHeartbeats 4000000
namespace K6
open PySem PySem.Spec PyProof.Rows L2
theorem min_if (a b : Int) : (if b < a then b else a) = min a b := by
  by_cases h : b < a
  · rw [if_pos h]; omega
  · rw [if_neg h]; omega
theorem max_if (a b : Int) : (if b > a then b else a) = max a b := by
  by_cases h : b > a
  · rw [if_pos h]; omega
  · rw [if_neg h]; omega
section
variable {P : Program} {w : World} {K : PySem.W.Frag} {mg : Str → Option Value} {base : Heap} {D : Ads}
def spHalves (K : PySem.W.Frag) : Sp := fun vs H Q _ => ∃ (sv : V) (st : Stp) (la ra : Addr) (l r : List Int), vs = [sv, .ref la, .ref ra] ∧ Dp K H sv (stpD st) ∧ H la = some (.lst (l.map V.int)) ∧ H ra = some (.lst (r.map V.int)) ∧ l.length = r.length ∧ l.length ≤ 4194304 ∧
  ∀ H' p l' r', Same H H' → SqT K H' p [.ref l', .ref r'] → SqL K H' l' ((stepR st (l, r)).1.map V.int) → SqL K H' r' ((stepR st (l, r)).2.map V.int) → Q (.ref p) H'
theorem ok_lawHalves (T : Txt K mg D) : FnOk P w K mg base CX0 1 (D.d 66).f (D.d 66).fd ["_law_step_here", "_law_left", "_law_right"] (spHalves K) := by
  refine T.w66.F.ok scLawHalves (fun vs H Q E h => ?_) (fun cdv A outer s H vs Q E hr h => ?_)
  · obtain ⟨_, _, _, _, _, _, rfl, _⟩ := h
    rfl
  · obtain ⟨sv, st, la, ra, l, r, rfl, hs, hl, hr', hlr, hz, k⟩ := h
    refine ⟨_, (pss_cons (ps_par (i := 4) (j := 5) (by rfl) scLawHalves.nd rfl rfl (by decide) rfl rfl (pa_cons (pe_callB call_len_seq (by rfl) T.len boot_len (pa_cons (pv 1) pa_nil)) (pa_cons (pe_op op_cat (pv 1) (pv 2)) pa_nil)) (by rfl))
      (pss_cons (ps_if (pt_cmpR op_eq (pe_ix ix_tup (pv 0) pe_int (fun _ _ => rfl)) pe_str (nomark _)) (pss_one (ps_ret (pe_tup (pa_cons (pv 2) (pa_cons (pv 1) pa_nil))))) pss_nil)
      (pss_cons (ps_if (pt_cmpR op_eq (pe_ix ix_tup (pv 0) pe_int (fun _ _ => rfl)) pe_str (nomark _)) (pss_cons (ps_if (pt_cmpR op_eq (pe_ix ix_tup (pv 0) pe_int (fun _ _ => rfl)) pe_str (nomark _)) (pss_one (ps_ret (pe_tup (pa_cons (pe_slice sl_list (pe_revL (pv 5)) po_none (po_some (pv 4))) (pa_cons (pe_slice sl_list (pe_revL (pv 5)) (po_some (pv 4)) po_none) pa_nil))))) pss_nil)
      (pss_one (ps_ret (pe_tup (pa_cons (pe_ifExp (pt_cmpR op_in_seq (pe_ix ix_tup (pv 0) pe_int (fun _ _ => rfl)) (pe_tup (pa_cons pe_str (pa_cons pe_str pa_nil))) (by rfl)) (pe_revL (pv 1)) (pv 1)) (pa_cons (pe_ifExp (pt_cmpR op_in_seq (pe_ix ix_tup (pv 0) pe_int (fun _ _ => rfl)) (pe_tup (pa_cons pe_str (pa_cons pe_str pa_nil))) (by rfl)) (pe_revL (pv 2)) (pv 2)) pa_nil)))))) pss_nil)
      (pss_cons (ps_for PassesOwn.never rfl (pi_range1 (by rfl) T.range (pa_cons (pv 4) pa_nil)) (pg_name (i := 3) scLawHalves.nd rfl (by first | exact Or.inl rfl | exact Or.inr rfl)) (pss_cons (ps_set (i := 6) scLawHalves.nd rfl (by first | exact Or.inl rfl | exact Or.inr rfl) (pe_ifExp (pt_cmpR op_eq (pe_ix ix_tup (pv 0) pe_int (fun _ _ => rfl)) pe_str (nomark _)) (pe_op op_add (pv 3) (pv 4)) (pe_op op_sub (pe_op op_sub (pe_op op_mul pe_int (pv 4)) pe_int) (pv 3))))
      (pss_cons (ps_par (i := 7) (j := 8) (by rfl) scLawHalves.nd rfl rfl (by decide) rfl rfl (pa_cons (pe_callB (call_min2 rfl) (by rfl) T.min boot_min (pa_cons (pe_ix ix_list (pv 5) (pv 3) (fun _ _ => rfl)) (pa_cons (pe_ix ix_list (pv 5) (pv 6) (fun _ _ => rfl)) pa_nil))) (pa_cons (pe_callB (call_max2 rfl) (by rfl) T.max boot_max (pa_cons (pe_ix ix_list (pv 5) (pv 3) (fun _ _ => rfl)) (pa_cons (pe_ix ix_list (pv 5) (pv 6) (fun _ _ => rfl)) pa_nil))) pa_nil)) (by rfl))
      (pss_one (ps_asg (pe_ifExp (pt_cmpR op_eq (pe_ix ix_tup (pv 0) pe_int (fun _ _ => rfl)) pe_str (nomark _)) (pe_tup (pa_cons (pv 7) (pa_cons (pv 8) pa_nil))) (pe_tup (pa_cons (pv 8) (pa_cons (pv 7) pa_nil)))) (pg_tup (by rfl) (pgs_cons (pg_sub (pv 5) (pv 3) set_list) (pgs_cons (pg_sub (pv 5) (pv 6) set_list) pgs_nil))))))))
      (pss_one (ps_ret (pe_tup (pa_cons (pe_slice sl_list (pv 5) po_none (po_some (pv 4))) (pa_cons (pe_slice sl_list (pv 5) (po_some (pv 4)) po_none) pa_nil))))))))), ?_⟩
    obtain ⟨c, rfl, hc⟩ := stp_get hs
    have zl : sizeLine = 16777216 := sizeLine_eq
    have hl' := SqL.of (K := K) hl
    have hr2 := SqL.of (K := K) hr'
    refine ⟨_, rfl, _, _, rfl, .inl hl', _, rfl, _, rfl, la, ra, _, _, rfl, rfl, hl, hr', by rw [List.length_map, List.length_map]; omega, fun wa hwa => ⟨_, _, rfl, ?_⟩⟩
    rw [← List.map_append, List.length_map]
    have s1 := same_new (o := .lst ((l ++ r).map V.int)) hwa
    have hW : (upd H wa (.lst ((l ++ r).map V.int))) wa = some (.lst ((l ++ r).map V.int)) := upd_same
    refine st_eq (σ' := [some (.ref c), some (.ref la), some (.ref ra), none, some (.int (l.length : Nat)), some (.ref wa), none, none, none]) (H' := upd H wa (.lst ((l ++ r).map V.int))) rfl rfl ?_
    generalize upd H wa (.lst ((l ++ r).map V.int)) = H1 at s1 hW ⊢
    have hc1 := tupS s1 hc
    have rv : ∀ {m : List Int}, (m.map V.int).reverse = m.reverse.map V.int := fun {m} => by rw [List.map_reverse]
    cases st with
    | swap =>
      refine ⟨_, rfl, _, _, _, _, rfl, rfl, hc1, at_of (j := 0) rfl rfl, rfl, true, by decide +kernel, iteT ?_⟩
      refine ⟨_, rfl, _, rfl, small2, fun q hq => ?_⟩
      have s2 := s1.trans (same_new (o := .tup [.ref ra, .ref la]) hq)
      exact k _ q ra la s2 (SqT.of upd_same) (s2.seq hr2) (s2.seq hl')
    | flip z =>
      refine ⟨_, rfl, _, _, _, .str "flip", rfl, rfl, hc1, at_of (j := 0) rfl rfl, rfl, false, by decide +kernel, iteF ?_⟩
      refine ⟨_, rfl, _, _, _, .str "flip", rfl, rfl, hc1, at_of (j := 0) rfl rfl, rfl, true, by decide +kernel, iteT ?_⟩
      refine ⟨_, rfl, _, _, _, .str (sdS z), rfl, rfl, hc1, at_of (j := 1) rfl rfl, rfl, ?_⟩
      by_cases hz : z = .all
      · subst hz
        refine ⟨true, by decide +kernel, iteT ?_⟩
        have hrl : (r.reverse).length = l.length := by rw [List.length_reverse]; omega
        have e1 : cutV (((l ++ r).reverse).map V.int) none (some (l.length : Nat)) = (r.reverse).map V.int := by
          rw [cut_takeL l.length rfl, List.reverse_append, List.take_left' hrl]
        have e2 : cutV (((l ++ r).reverse).map V.int) (some (l.length : Nat)) none = (l.reverse).map V.int := by
          rw [cut_dropL l.length rfl, List.reverse_append, List.drop_left' hrl]
        refine ⟨_, rfl, wa, _, rfl, SqL.of hW, fun p hp => ?_⟩
        have t1 := same_new (o := .lst ((l ++ r).map V.int).reverse) hp
        refine ⟨_, rfl, _, rfl, slL_of (by rw [← rv]; exact SqL.of upd_same) e1 fun q1 H2 t2 hq1 => ?_⟩
        have sA := t1.trans t2
        refine ⟨_, rfl, wa, _, rfl, SqL.of (sA _ _ hW), fun p2 hp2 => ?_⟩
        have t3 := same_new (o := .lst ((l ++ r).map V.int).reverse) hp2
        refine ⟨_, rfl, _, rfl, no_part (slL_of (by rw [← rv]; exact SqL.of upd_same) e2 fun q2 H3 t4 hq2 => ?_)⟩
        have t34 := t3.trans t4
        refine ⟨small2, fun q hq => ?_⟩
        have t5 := same_new (o := .tup [.ref q1, .ref q2]) hq
        exact k _ q q1 q2 (s1.trans (sA.trans (t34.trans t5))) (SqT.of upd_same) ((t34.trans t5).seq hq1) (t5.seq hq2)
      · have hne : ¬ V.str (sdS z) = V.str "all" := by cases z <;> first | exact absurd rfl hz | decide +kernel
        refine ⟨false, congrArg V.bl (decide_eq_false hne), iteF ?_⟩
        refine ⟨_, rfl, _, _, _, .str (sdS z), rfl, rfl, hc1, at_of (j := 1) rfl rfl, small2, fun q hq => ?_⟩
        have t1 := same_new (o := .tup [.str "left", .str "both"]) hq
        refine ⟨_, _, rfl, .inr (SqT.of upd_same), rfl, rfl, z == .left || z == .both, by cases z <;> decide +kernel, ?_⟩
        refine flipL_join ((s1.trans t1).seq hl') (fun G q => ⟨_, rfl, q⟩) fun l2 H2 t2 h2 => ?_
        have t12 := t1.trans t2
        refine ⟨_, rfl, _, _, _, .str (sdS z), rfl, rfl, tupS t12 hc1, at_of (j := 1) rfl rfl, small2, fun q3 hq3 => ?_⟩
        have t3 := same_new (o := .tup [.str "right", .str "both"]) hq3
        refine ⟨_, _, rfl, .inr (SqT.of upd_same), rfl, rfl, z == .right || z == .both, by cases z <;> decide +kernel, ?_⟩
        refine flipL_join ((s1.trans (t12.trans t3)).seq hr2) (fun G q => ⟨_, rfl, q⟩) fun r2 H3 t4 h4 => ?_
        refine ⟨small2, fun q4 hq4 => ?_⟩
        have t5 := same_new (o := .tup [.ref l2, .ref r2]) hq4
        have e : stepR (.flip z) (l, r) = (flipIf (z == .left || z == .both) l, flipIf (z == .right || z == .both) r) := by cases z <;> first | exact absurd rfl hz | rfl
        refine k _ q4 l2 r2 (s1.trans ((t12.trans (t3.trans t4)).trans t5)) (SqT.of upd_same) ?_ ?_
        · rw [e]; exact ((t3.trans t4).trans t5).seq h2
        · rw [e]; exact t5.seq h4
    | cmp x up =>
      have hk : kindS x = "cross" ∨ kindS x = "mirror" := by cases x <;> simp [kindS]
      refine ⟨_, rfl, _, _, _, .str (kindS x), rfl, rfl, hc1, at_of (j := 0) rfl rfl, rfl, false, by cases x <;> decide +kernel, iteF ?_⟩
      refine ⟨_, rfl, _, _, _, .str (kindS x), rfl, rfl, hc1, at_of (j := 0) rfl rfl, rfl, false, by cases x <;> decide +kernel, iteF ?_⟩
      have hql : l.length = (flipIf (!x) r).length := by rw [length_flipIf]; exact hlr
      have nwa : H wa = none := hwa
      refine ⟨_, rfl, _, rfl, by omega, by omega, ?_⟩
      refine for_it (walk_range (lo := 0) (n := l.length)) (fun i σ Hx => ∃ z1 z2 z3 z4, σ = [some (.ref c), some (.ref la), some (.ref ra), z1, some (.int (l.length : Nat)), some (.ref wa), z2, z3, z4] ∧ Same H Hx ∧ Hx wa = some (.lst ((whl x up l (flipIf (!x) r) i).map V.int))) ⟨none, none, none, none, rfl, s1, by rw [whl_zero]; exact hW⟩ (fun i σ Hx _ _ => trivial) ?_ ?_
      · rintro i y σ Hx' Hx hi ⟨z1, z2, z3, z4, rfl, sx, hWx⟩ ⟨rfl, rfl⟩
        obtain ⟨a, ea⟩ : ∃ a, l[i]? = some a := ⟨_, List.getElem?_eq_getElem hi⟩
        obtain ⟨b, eb⟩ : ∃ b, (flipIf (!x) r)[i]? = some b := ⟨_, List.getElem?_eq_getElem (by omega)⟩
        obtain ⟨g1, g2, g3⟩ := whl_step (x := x) (up := up) hql ea eb
        have hlen := whl_len (x := x) (up := up) (i := i) hql
        refine gn_st (σ' := [some (.ref c), some (.ref la), some (.ref ra), some (.int (i : Nat)), some (.int (l.length : Nat)), some (.ref wa), z2, z3, z4]) (by show [_, _, _, some (V.int (0 + (i : Int))), _, _, _, _, _] = _; rw [Int.zero_add]) ?_
        dsimp only
        refine seq_join (fun v H' => v = .int (oth x l.length i : Nat) ∧ H' = Hx) (fun G hG => ?_) ?_
        · refine ⟨_, rfl, _, _, _, .str (kindS x), rfl, rfl, tupS sx hc, at_of (j := 0) rfl rfl, rfl, x, by cases x <;> decide +kernel, ?_⟩
          cases x with
          | true => exact iteT ⟨_, rfl, _, rfl, _, _, rfl, rfl, hG _ _ ⟨by unfold oth; rw [if_pos rfl]; rfl, rfl⟩⟩
          | false =>
            refine iteF ⟨_, rfl, _, _, rfl, rfl, .inl ⟨by decide, by decide⟩, _, _, rfl, rfl, _, rfl, _, _, rfl, rfl, hG _ _ ⟨?_, rfl⟩⟩
            show V.int _ = V.int _
            unfold oth
            rw [if_neg Bool.false_ne_true]
            congr 1
            omega
        rintro v H' ⟨rfl, rfl⟩
        refine gn_st (σ' := [some (.ref c), some (.ref la), some (.ref ra), some (.int (i : Nat)), some (.int (l.length : Nat)), some (.ref wa), some (.int (oth x l.length i : Nat)), z3, z4]) rfl ?_
        have hoth : oth x l.length i < 2 * l.length := by unfold oth; split <;> omega
        have ia : ((whl x up l (flipIf (!x) r) i).map V.int)[i]? = some (.int a) := by rw [List.getElem?_map, g1]; rfl
        have ib : ((whl x up l (flipIf (!x) r) i).map V.int)[oth x l.length i]? = some (.int b) := by rw [List.getElem?_map, g2]; rfl
        refine ⟨_, rfl, _, rfl, wa, _, _, .int a, rfl, rfl, SqL.of hWx, at_of (j := i) rfl ia, _, rfl, _, rfl, wa, _, _, .int b, rfl, rfl, SqL.of hWx, at_of (j := oth x l.length i) rfl ib, a, b, rfl, ?_⟩
        refine ⟨_, rfl, _, rfl, wa, _, _, .int a, rfl, rfl, SqL.of hWx, at_of (j := i) rfl ia, _, rfl, _, rfl, wa, _, _, .int b, rfl, rfl, SqL.of hWx, at_of (j := oth x l.length i) rfl ib, a, b, rfl, _, _, rfl, ?_⟩
        rw [min_if, max_if]
        refine st_eq (σ' := [some (.ref c), some (.ref la), some (.ref ra), some (.int (i : Nat)), some (.int (l.length : Nat)), some (.ref wa), some (.int (oth x l.length i : Nat)), some (.int (min a b)), some (.int (max a b))]) (H' := H') rfl rfl ?_
        dsimp only
        refine asg_join (fun v H2 => ∃ q, v = .ref q ∧ Same H' H2 ∧ H2 q = some (.tup [.int (ordP up a b).1, .int (ordP up a b).2])) (fun G hG => ?_) ?_
        · refine ⟨_, rfl, _, _, _, .str (ordS up), rfl, rfl, tupS sx hc, at_of (j := 1) rfl rfl, rfl, up, by cases up <;> decide +kernel, ?_⟩
          cases up with
          | true => exact iteT ⟨_, rfl, _, rfl, small2, fun q hq => hG _ _ ⟨q, rfl, same_new hq, upd_same⟩⟩
          | false => exact iteF ⟨_, rfl, _, rfl, small2, fun q hq => hG _ _ ⟨q, rfl, same_new hq, upd_same⟩⟩
        rintro v H2 ⟨q, rfl, t2, hq⟩
        have hW2 := t2 _ _ hWx
        refine ⟨q, _, rfl, SqT.of hq, rfl, _, _, rfl, _, rfl, _, rfl, wa, _, _, i, rfl, rfl, hW2, ixN_of (by rw [List.length_map, hlen]; omega), ?_⟩
        refine ⟨_, _, rfl, _, rfl, _, rfl, wa, _, _, oth x l.length i, rfl, rfl, upd_same, ixN_of (by rw [List.length_set, List.length_map, hlen]; exact hoth), rfl, ?_⟩
        refine ⟨_, _, _, _, rfl, same_upd_new (same_upd_new (sx.trans t2) nwa) nwa, ?_⟩
        rw [upd_same, ← g3, List.map_set, List.map_set]
      · rintro σ Hx ⟨z1, z2, z3, z4, rfl, sx, hWx⟩
        obtain ⟨w1, w2⟩ := whl_end (x := x) (up := up) hlr
        rw [w1] at hWx
        have e1 : cutV (((stepR (.cmp x up) (l, r)).1 ++ (stepR (.cmp x up) (l, r)).2).map V.int) none (some (l.length : Nat)) = (stepR (.cmp x up) (l, r)).1.map V.int := by
          rw [cut_takeL l.length rfl, List.take_left' w2]
        have e2 : cutV (((stepR (.cmp x up) (l, r)).1 ++ (stepR (.cmp x up) (l, r)).2).map V.int) (some (l.length : Nat)) none = (stepR (.cmp x up) (l, r)).2.map V.int := by
          rw [cut_dropL l.length rfl, List.drop_left' w2]
        refine ⟨_, rfl, _, rfl, _, rfl, slL_of (SqL.of hWx) e1 fun q1 H2 t1 hq1 => ?_⟩
        refine ⟨_, rfl, _, rfl, _, rfl, no_part (slL_of (SqL.of (t1 _ _ hWx)) e2 fun q2 H3 t2 hq2 => ?_)⟩
        refine ⟨small2, fun q hq => ?_⟩
        have t3 := same_new (o := .tup [.ref q1, .ref q2]) hq
        exact k _ q q1 q2 (sx.trans ((t1.trans t2).trans t3)) (SqT.of upd_same) ((t2.trans t3).seq hq1) (t3.seq hq2)
end
end K6
set_option Elab.async false
set_option linter.all false
set_option maxRecDepth 100000
set_option maxHeartbeats 4000000
namespace K6
open PySem PySem.Spec PyProof.Rows L2
theorem rd_mono {H H' : Hp} {a : Addr} {o : HO} (s : Same H H') (h : Rd H a o) : Rd H' a o := by
  rcases h with h | ⟨u, h⟩
  · exact .inl (s _ _ h)
  · exact .inr ⟨u, s _ _ h⟩
theorem dget_mono {H H' : Hp} {a : Addr} {y : V} {r : Option V} (s : Same H H') (h : DGet H a y r) : DGet H' a y r := by
  rcases h with ⟨kvs, k, h1, h2, h3⟩ | ⟨kvs, k, b, h1, h2, h3, h4⟩
  · exact .inl ⟨kvs, k, rd_mono s h1, h2, h3⟩
  · exact .inr ⟨kvs, k, b, rd_mono s h1, h2, s _ _ h3, h4⟩
theorem if_join {t u : TS} {D : Ends} {σ : L2.St} {H : Hp} (Good : L2.St → Hp → Prop) (h : ∀ D' : Ends, (∀ σ' H', Good σ' H' → D'.nx σ' H') → t D' σ H) (k : ∀ σ' H', Good σ' H' → u D σ' H') : tSeq t u D σ H := h _ k
/-- what is found behind j halves -/
def foN (L : Looms) (k nm : Nat) (p : List Int × List Int) : Nat → List Int
  | 0 => []
  | 1 => callN L k (L.at nm).one p.1
  | _ => callN L k (L.at nm).one p.1 ++ callN L k (L.at nm).two p.2
section
variable {P : Program} {w : World} {K : PySem.W.Frag} {mg : Str → Option Value} {base : Heap} {D : Ads}
theorem ok_lawDone (T : Txt K mg D) : ∀ k : Nat, FnOk P w K mg base CX0 (k + 3) (D.d 67).f (D.d 67).fd ["_law_looms", "_law_name", "_law_row"] (spDone K k)
  | 0 => by
    refine T.w67.F.ok scLawDone (fun vs H Q E h => ?_) (fun cdv A outer s H vs Q E hr h => ?_)
    · obtain ⟨_, _, _, _, _, rfl, _⟩ := h
      rfl
    · obtain ⟨v, L, nm, ra, r, rfl, hL, ok, hnm, hR, hlen, h21, kk⟩ := h
      refine ⟨_, pss_cons (ps_if (pt_cmpR op_eq (pe_callB call_len_seq (by rfl) T.len boot_len (pa_cons (pv 2) pa_nil)) pe_int (nomark _)) (pss_one (ps_ret (pe_callTy call_list_of (by rfl) T.list boot_list (pa_cons (pv 2) pa_nil)))) pss_nil) pss_never, ?_⟩
      refine ⟨_, rfl, _, _, rfl, .inl hR, rfl, true, ?_, iteT ⟨_, rfl, ra, _, rfl, .inl hR, fun p hp => kk _ p (same_new hp) ?_⟩⟩
      · exact congrArg V.bl (decide_eq_true (congrArg V.int (by rw [List.length_map, hlen]; rfl)))
      · rw [doneN]; exact SqL.of upd_same
  | k + 1 => by
    have hd := ok_lawDone T k
    refine T.w67.F.ok scLawDone (fun vs H Q E h => ?_) (fun cdv A outer s H vs Q E hr h => ?_)
    · obtain ⟨_, _, _, _, _, rfl, _⟩ := h
      rfl
    · obtain ⟨v, L, nm, ra, r, rfl, hL, ok, hnm, hR, hlen, h21, kk⟩ := h
      refine ⟨_, (pss_cons (ps_if (pt_cmpR op_eq (pe_callB call_len_seq (by rfl) T.len boot_len (pa_cons (pv 2) pa_nil)) pe_int (nomark _)) (pss_one (ps_ret (pe_callTy call_list_of (by rfl) T.list boot_list (pa_cons (pv 2) pa_nil)))) pss_nil)
      (pss_cons (ps_par (i := 5) (j := 6) (by rfl) scLawDone.nd rfl rfl (by decide) rfl rfl (pa_cons (pe_callTy call_list_of (by rfl) T.list boot_list (pa_cons (pe_slice sl_list (pv 2) po_none (po_some (pe_op op_fdiv (pe_callB call_len_seq (by rfl) T.len boot_len (pa_cons (pv 2) pa_nil)) pe_int))) pa_nil)) (pa_cons (pe_callTy call_list_of (by rfl) T.list boot_list (pa_cons (pe_slice sl_list (pv 2) (po_some (pe_op op_fdiv (pe_callB call_len_seq (by rfl) T.len boot_len (pa_cons (pv 2) pa_nil)) pe_int)) po_none) pa_nil)) pa_nil)) (by rfl))
      (pss_cons (ps_for PassesOwn.never rfl (pi_tup (pe_ix ix_tup (pe_dget (hu_of hr) (pv 0) (pv 1) (fun _ _ => rfl)) pe_int (fun _ _ => rfl))) (pg_name (i := 3) scLawDone.nd rfl (by first | exact Or.inl rfl | exact Or.inr rfl)) (pss_one (ps_asg (pe_call (ok_lawHalves T) (hr.mono (by omega)) (by rfl) T.w66.m T.w66.F.kp T.w66.B .nil pass0 (pa_cons (pv 3) (pa_cons (pe_callTy call_list_of (by rfl) T.list boot_list (pa_cons (pv 5) pa_nil)) (pa_cons (pe_callTy call_list_of (by rfl) T.list boot_list (pa_cons (pv 6) pa_nil)) pa_nil)))) (pg_tup (by rfl) (pgs_cons (pg_name (i := 5) scLawDone.nd rfl (by first | exact Or.inl rfl | exact Or.inr rfl)) (pgs_cons (pg_name (i := 6) scLawDone.nd rfl (by first | exact Or.inl rfl | exact Or.inr rfl)) pgs_nil))))))
      (pss_cons (ps_set (i := 4) scLawDone.nd rfl (by first | exact Or.inl rfl | exact Or.inr rfl) (pe_lst pa_nil))
      (pss_cons (ps_for PassesOwn.never rfl (pi_zipM false true (by rfl) T.zip (pa_cons (pe_lst (pa_cons (pv 5) (pa_cons (pv 6) pa_nil))) (pa_cons (pe_slice sl_tup (pe_dget (hu_of hr) (pv 0) (pv 1) (fun _ _ => rfl)) (po_some pe_int) po_none) pa_nil))) (pg_tup (by rfl) (pgs_cons (pg_name (i := 7) scLawDone.nd rfl (by first | exact Or.inl rfl | exact Or.inr rfl)) (pgs_cons (pg_name (i := 8) scLawDone.nd rfl (by first | exact Or.inl rfl | exact Or.inr rfl)) pgs_nil))) (pss_cons (ps_if (PW.pt (pw_and (pt_cmp (pc_notN (pv 8)) rfl) (pw_and1 (pt_val (pe_ix ix_tup (pv 8) pe_int (fun _ _ => rfl)))))) (pss_one (ps_set (i := 7) scLawDone.nd rfl (by first | exact Or.inl rfl | exact Or.inr rfl) (pe_revL (pe_call (hd) (hr.mono (by omega)) (by rfl) T.w67.m T.w67.F.kp T.w67.B .nil pass0 (pa_cons (pv 0) (pa_cons (pe_ix ix_tup (pv 8) pe_int (fun _ _ => rfl)) (pa_cons (pe_revL (pv 7)) pa_nil))))))) (pss_one (ps_if (pt_cmp (pc_notN (pv 8)) rfl) (pss_one (ps_set (i := 7) scLawDone.nd rfl (by first | exact Or.inl rfl | exact Or.inr rfl) (pe_call (hd) (hr.mono (by omega)) (by rfl) T.w67.m T.w67.F.kp T.w67.B .nil pass0 (pa_cons (pv 0) (pa_cons (pe_ix ix_tup (pv 8) pe_int (fun _ _ => rfl)) (pa_cons (pv 7) pa_nil)))))) pss_nil)))
      (pss_one (ps_set (i := 4) scLawDone.nd rfl (by first | exact Or.inl rfl | exact Or.inr rfl) (pe_op op_cat (pv 4) (pe_callTy call_list_of (by rfl) T.list boot_list (pa_cons (pv 7) pa_nil)))))))
      (pss_one (ps_ret (pv 4)))))))), ?_⟩
      have p2 : 2 ^ (k + 1) = 2 * 2 ^ k := by rw [Nat.pow_succ]; omega
      have p0 : 0 < 2 ^ k := Nat.two_pow_pos k
      have pz := pow21 h21
      have rl : (r.map V.int).length = 2 * 2 ^ k := by rw [List.length_map, hlen, p2]
      have hh : r.length / 2 = 2 ^ k := by rw [hlen, p2]; omega
      have zl : sizeLine = 16777216 := sizeLine_eq
      refine ⟨_, rfl, _, _, rfl, .inl hR, rfl, false, ?_, iteF ?_⟩
      · exact congrArg V.bl (decide_eq_false fun e => by injection e with e; rw [rl] at e; omega)
      -- left, right
      have e1 : cutV (r.map V.int) none (some (((r.map V.int).length : Int) / 2)) = (r.take (2 ^ k)).map V.int := cut_takeL (2 ^ k) (by rw [rl]; omega)
      have e2 : cutV (r.map V.int) (some (((r.map V.int).length : Int) / 2)) none = (r.drop (2 ^ k)).map V.int := cut_dropL (2 ^ k) (by rw [rl]; omega)
      refine ⟨_, rfl, _, rfl, _, _, rfl, .inl hR, _, _, rfl, rfl, ⟨by decide, by decide⟩, _, rfl, slL_of hR e1 fun q1 H1 s1 hq1 => ⟨q1, _, rfl, .inl hq1, fun l1 hl1 => ?_⟩⟩
      have s2 := same_new (o := .lst ((r.take (2 ^ k)).map V.int)) hl1
      have s12 := s1.trans s2
      refine ⟨_, rfl, _, rfl, _, _, rfl, .inl (s12.seq hR), _, _, rfl, rfl, ⟨by decide, by decide⟩, _, rfl, no_part (slL_of (s12.seq hR) e2 fun q2 H2 s3 hq2 => ⟨q2, _, rfl, .inl hq2, fun l2 hl2 => ?_⟩)⟩
      have s4 := same_new (o := .lst ((r.drop (2 ^ k)).map V.int)) hl2
      have hL1 := SqL.of (K := K) (s4 _ _ (s3 _ _ (upd_same (H := H1) (a := l1) (o := HO.lst ((r.take (2 ^ k)).map V.int)))))
      have hL2 := SqL.of (K := K) (upd_same (H := H2) (a := l2) (o := HO.lst ((r.drop (2 ^ k)).map V.int)))
      have sA := (s12.trans s3).trans s4
      generalize upd H2 l2 (.lst ((r.drop (2 ^ k)).map V.int)) = H3 at hL1 hL2 sA ⊢
      refine ⟨_, _, rfl, ?_⟩
      obtain ⟨da, lv, rfl, hg0, hlv⟩ := looms_get hL ok.three hnm
      obtain ⟨ll, v0, v1, v2, rfl, hll, k0, k1, k2⟩ := loom_get hlv
      have hget : ∀ {Hz}, Same H Hz → DGet Hz da (.str (nmS nm)) (some (.ref ll)) := fun {Hz} s => dget_mono s hg0
      refine st_eq (σ' := [some (.ref da), some (.str (nmS nm)), some (.ref ra), none, none, some (.ref l1), some (.ref l2), none, none]) (H' := H3) rfl rfl ?_
      -- for step in steps
      obtain ⟨sp, sxs, rfl, hs1, hs2⟩ := k0.tuple
      have hls : sxs.length = (L.at nm).steps.length := by rw [hs2.length]; simp
      refine ⟨_, rfl, _, rfl, da, _, rfl, hget sA, ll, _, _, .ref sp, rfl, rfl, tupS sA hll, at_of (j := 0) rfl rfl, sp, rfl, ⟨_, tupS sA hs1⟩, ?_⟩
      have t1 : (r.take (2 ^ k)).length = 2 ^ k := by rw [List.length_take, hlen]; omega
      have t2 : (r.drop (2 ^ k)).length = 2 ^ k := by rw [List.length_drop, hlen]; omega
      refine for_it (walk_tup (K := K) (a := sp) (xs := sxs)) (fun i σ Hx => ∃ z a1 a2, σ = [some (.ref da), some (.str (nmS nm)), some (.ref ra), z, none, some (.ref a1), some (.ref a2), none, none] ∧ Same H Hx ∧
        SqL K Hx a1 ((((L.at nm).steps.take i).foldl (fun p s => stepR s p) (r.take (2 ^ k), r.drop (2 ^ k))).1.map V.int) ∧ SqL K Hx a2 ((((L.at nm).steps.take i).foldl (fun p s => stepR s p) (r.take (2 ^ k), r.drop (2 ^ k))).2.map V.int))
        ⟨none, l1, l2, rfl, sA, hL1, hL2⟩ (fun i σ Hx _ ⟨_, _, _, _, h, _⟩ => tupS h hs1) ?_ ?_
      · rintro i x σ Hx Hy hi ⟨z, a1, a2, rfl, hS, g1, g2⟩ ⟨rfl, ex⟩
        obtain ⟨d, ed, hd'⟩ := hs2.getV ex
        rw [List.getElem?_map] at ed
        obtain ⟨y, ey, rfl⟩ := Option.map_eq_some_iff.mp ed
        obtain ⟨f1, f2⟩ := fold_len ((L.at nm).steps.take i) (r.take (2 ^ k), r.drop (2 ^ k)) (t1.trans t2.symm)
        have e3 : (L.at nm).steps.take (i + 1) = (L.at nm).steps.take i ++ [y] := by
          rw [List.take_add_one, ey]; rfl
        refine ⟨_, rfl, _, rfl, a1, _, rfl, .inl g1, fun b1 hb1 => ?_⟩
        have u1 := same_new (o := .lst ((((L.at nm).steps.take i).foldl (fun p s => stepR s p) (r.take (2 ^ k), r.drop (2 ^ k))).1.map V.int)) hb1
        refine ⟨_, rfl, a2, _, rfl, .inl (u1.seq g2), fun b2 hb2 => ?_⟩
        have u2 := same_new (o := .lst ((((L.at nm).steps.take i).foldl (fun p s => stepR s p) (r.take (2 ^ k), r.drop (2 ^ k))).2.map V.int)) hb2
        have u12 := u1.trans u2
        refine ⟨x, y, b1, b2, _, _, rfl, hd'.mono (hS.trans u12), u2 _ _ upd_same, upd_same, f1.trans f2.symm, ?_, fun H4 p4 l' r' s4 hp4 h1 h2 => ?_⟩
        · rw [f1]; show (r.take (2 ^ k)).length ≤ _; omega
        refine ⟨p4, _, rfl, hp4, rfl, _, _, rfl, _, _, rfl, rfl, ?_⟩
        refine ⟨_, l', r', rfl, hS.trans (u12.trans s4), ?_, ?_⟩
        · rw [e3, List.foldl_append]; exact h1
        · rw [e3, List.foldl_append]; exact h2
      · rintro σ Hx ⟨z, a1, a2, rfl, hS, g1, g2⟩
        rw [hls, List.take_length] at g1 g2
        obtain ⟨f1, f2⟩ := fold_len (L.at nm).steps (r.take (2 ^ k), r.drop (2 ^ k)) (t1.trans t2.symm)
        have ehv : halves r = (r.take (2 ^ k), r.drop (2 ^ k)) := by unfold halves; rw [hh]
        rw [← ehv] at g1 g2 f1 f2
        have u1 : ((L.at nm).steps.foldl (fun p s => stepR s p) (halves r)).1.length = 2 ^ k := by rw [f1, ehv]; exact t1
        have u2 : ((L.at nm).steps.foldl (fun p s => stepR s p) (halves r)).2.length = 2 ^ k := by rw [f2, ehv]; exact t1
        have efin : doneN L (k + 1) nm r = foN L k nm ((L.at nm).steps.foldl (fun p s => stepR s p) (halves r)) 2 := by rw [doneN]; rfl
        generalize (L.at nm).steps.foldl (fun p s => stepR s p) (halves r) = hp at g1 g2 u1 u2 efin
        -- found = []
        refine ⟨Nat.zero_le _, fun pf hpf => ?_⟩
        have w1 := same_new (o := .lst []) hpf
        have hf0 : (upd Hx pf (.lst [])) pf = some (.lst []) := upd_same
        refine gn_st (σ' := [some (.ref da), some (.str (nmS nm)), some (.ref ra), z, some (.ref pf), some (.ref a1), some (.ref a2), none, none]) rfl ?_
        have sB := hS.trans w1
        have g1' := w1.seq g1
        have g2' := w1.seq g2
        generalize upd Hx pf (.lst []) = H5 at hf0 sB g1' g2' ⊢
        -- zip
        refine ⟨_, rfl, _, rfl, small2, fun q hq => ?_⟩
        have w2 := same_new (o := .lst [.ref a1, .ref a2]) hq
        refine ⟨_, rfl, _, rfl, da, _, rfl, hget (sB.trans w2), _, rfl, ll, _, rfl, tupS (sB.trans w2) hll, ?_, fun p hpn => ?_⟩
        · show ¬ (HT.sIx 3 0 (some 1) = 0 ∧ HT.sIx 3 3 none = 3)
          decide
        have w3 := same_new (o := .tup (cutV [.ref sp, v1, v2] (some 1) none)) hpn
        have sC := sB.trans (w2.trans w3)
        have hz1 : SqK false K (upd (upd H5 q (.lst [.ref a1, .ref a2])) p (.tup (cutV [.ref sp, v1, v2] (some 1) none))) q [.ref a1, .ref a2] := SqL.of (w3 _ _ upd_same)
        have hz2 : SqK true K (upd (upd H5 q (.lst [.ref a1, .ref a2])) p (.tup (cutV [.ref sp, v1, v2] (some 1) none))) p [v1, v2] := SqT.of upd_same
        have g1'' := (w2.trans w3).seq g1'
        have g2'' := (w2.trans w3).seq g2'
        have hf1 := (w2.trans w3) _ _ hf0
        refine ⟨q, p, _, _, rfl, hz1, hz2, ?_⟩
        generalize upd (upd H5 q (.lst [.ref a1, .ref a2])) p (.tup (cutV [.ref sp, v1, v2] (some 1) none)) = H6 at sC hz1 hz2 g1'' g2'' hf1 ⊢
        refine for_it (walk_zipM (k1 := false) (k2 := true) (K := K) (a := q) (b := p) (xs := [.ref a1, .ref a2]) (ys := [v1, v2]) (n := 2) rfl) (fun j σ Hy => ∃ z1 fa z2 z3, σ = [some (.ref da), some (.str (nmS nm)), some (.ref ra), z1, some (.ref fa), some (.ref a1), some (.ref a2), z2, z3] ∧ Same H6 Hy ∧ Hy fa = some (.lst ((foN L k nm hp j).map V.int)))
          ⟨z, pf, none, none, rfl, Same.refl _, hf1⟩ (fun j σ Hy _ ⟨_, _, _, _, _, s, _⟩ => ⟨s.seq hz1, tupS s hz2⟩) ?_ ?_
        · rintro j x σ Hy' Hz hj ⟨z1, fa, z2, z3, rfl, sy, hfa⟩ ⟨Tt, x1, y1, rfl, hT, rfl, ex1, ey1⟩
          have sT := same_new (o := .tup [x1, y1]) hT
          have key : ∃ (sd : Bool) (a : Addr) (ql : List Int), x1 = .ref a ∧ SqL K H6 a (ql.map V.int) ∧ ql.length = 2 ^ k ∧ Dp K H6 y1 (callD ((L.at nm).call sd)) ∧ foN L k nm hp (j + 1) = foN L k nm hp j ++ callN L k ((L.at nm).call sd) ql := by
            have hj2 : j = 0 ∨ j = 1 := by omega
            rcases hj2 with rfl | rfl
            · have ex1 : [V.ref a1, .ref a2][0]? = some x1 := ex1
              have ey1 : [v1, v2][0]? = some y1 := ey1
              cases Option.some.inj ex1
              cases Option.some.inj ey1
              exact ⟨false, a1, hp.1, rfl, g1'', u1, k1.mono sC, by show _ = [] ++ _; rw [List.nil_append]; rfl⟩
            · have ex1 : [V.ref a1, .ref a2][1]? = some x1 := ex1
              have ey1 : [v1, v2][1]? = some y1 := ey1
              cases Option.some.inj ex1
              cases Option.some.inj ey1
              exact ⟨true, a2, hp.2, rfl, g2'', u2, k2.mono sC, rfl⟩
          obtain ⟨sd, a, ql, rfl, hq1, hql, hcall, efo⟩ := key
          have sTy := sy.trans sT
          refine ⟨Tt, _, rfl, SqT.of upd_same, rfl, _, _, rfl, _, _, rfl, rfl, ?_⟩
          refine st_eq (σ' := [some (.ref da), some (.str (nmS nm)), some (.ref ra), z1, some (.ref fa), some (.ref a1), some (.ref a2), some (.ref a), some y1]) (H' := upd Hy' Tt (.tup [.ref a, y1])) rfl rfl ?_
          have hfa1 := sT _ _ hfa
          generalize upd Hy' Tt (.tup [.ref a, y1]) = H7 at sT sTy hfa1 ⊢
          have hq7 := sTy.seq hq1
          have hL7 := hL.mono (sC.trans sTy)
          have hc7 := hcall.mono sTy
          have hlt : ∀ x, (L.at nm).call sd = some x → x.1 < L.length := fun x e => call_lt ok e
          dsimp only
          refine if_join (fun σ' H' => ∃ hb, σ' = [some (.ref da), some (.str (nmS nm)), some (.ref ra), z1, some (.ref fa), some (.ref a1), some (.ref a2), some (.ref hb), some y1] ∧ Same H7 H' ∧ SqL K H' hb ((callN L k ((L.at nm).call sd) ql).map V.int)) (fun D' hD' => ?_) ?_
          · generalize (L.at nm).call sd = c at hc7 hlt hD'
            cases c with
            | none =>
              have ev := Dp.isNone hc7
              subst ev
              exact ⟨_, rfl, false, rfl, iteF (iteF ⟨_, rfl, false, rfl, iteF (hD' _ _ ⟨a, rfl, Same.refl _, by rw [callN]; exact hq7⟩)⟩)⟩
            | some c =>
              obtain ⟨cn, ct⟩ := c
              obtain ⟨ca, rfl, hca⟩ := call_get hc7
              have hlt' : cn < L.length := hlt (cn, ct) rfl
              refine ⟨_, rfl, true, rfl, iteT ⟨_, rfl, ca, _, _, .bl ct, rfl, rfl, hca, at_of (j := 1) rfl rfl, ct, rfl, ?_⟩⟩
              cases ct with
              | true =>
                refine iteT ?_
                refine ⟨_, rfl, _, rfl, ca, _, _, .str (nmS cn), rfl, rfl, hca, at_of (j := 0) rfl rfl, _, rfl, a, _, rfl, hq7, fun p3 hp3 => ?_⟩
                have w4 := same_new (o := .lst (ql.map V.int).reverse) hp3
                refine ⟨.ref da, L, cn, p3, ql.reverse, rfl, hL7.mono w4, ok, hlt', by rw [List.map_reverse]; exact SqL.of upd_same, by rw [List.length_reverse]; exact hql, by omega, fun H8 p4 s8 h8 => ?_⟩
                refine ⟨p4, _, rfl, h8, fun p5 hp5 => ?_⟩
                refine gn_st (σ' := [some (.ref da), some (.str (nmS nm)), some (.ref ra), z1, some (.ref fa), some (.ref a1), some (.ref a2), some (.ref p5), some (.ref ca)]) rfl (hD' _ _ ⟨p5, rfl, (w4.trans s8).trans (same_new hp5), ?_⟩)
                rw [callN]
                show SqL K _ p5 (((doneN L k cn ql.reverse).reverse).map V.int)
                rw [List.map_reverse]
                exact SqL.of upd_same
              | false =>
                refine iteF ⟨_, rfl, true, rfl, iteT ?_⟩
                refine ⟨_, rfl, _, rfl, ca, _, _, .str (nmS cn), rfl, rfl, hca, at_of (j := 0) rfl rfl, _, rfl, .ref da, L, cn, a, ql, rfl, hL7, ok, hlt', hq7, hql, by omega, fun H8 p4 s8 h8 => ?_⟩
                refine gn_st (σ' := [some (.ref da), some (.str (nmS nm)), some (.ref ra), z1, some (.ref fa), some (.ref a1), some (.ref a2), some (.ref p4), some (.ref ca)]) rfl (hD' _ _ ⟨p4, rfl, s8, ?_⟩)
                rw [callN]; exact h8
          · rintro σ' H8 ⟨hb, rfl, s8, h8⟩
            have hfa8 := s8 _ _ hfa1
            have l1 : (callN L k ((L.at nm).call sd) ql).length = 2 ^ k := by rw [(callN_perm hql).length_eq]; exact hql
            have l2 : (foN L k nm hp j).length ≤ 2 ^ k := by
              have hj2 : j = 0 ∨ j = 1 := by omega
              rcases hj2 with rfl | rfl
              · exact Nat.zero_le _
              · show (callN L k (L.at nm).one hp.1).length ≤ _
                rw [(callN_perm u1).length_eq, u1]; exact Nat.le_refl _
            refine ⟨_, rfl, _, rfl, hb, _, rfl, .inl h8, fun p6 hp6 => ?_⟩
            have w6 := same_new (o := .lst ((callN L k ((L.at nm).call sd) ql).map V.int)) hp6
            refine ⟨fa, p6, _, _, rfl, rfl, w6 _ _ hfa8, upd_same, by rw [List.length_map, List.length_map]; omega, fun p7 hp7 => ?_⟩
            have w7 := same_new (o := .lst ((foN L k nm hp j).map V.int ++ (callN L k ((L.at nm).call sd) ql).map V.int)) hp7
            refine gn_st (σ' := [some (.ref da), some (.str (nmS nm)), some (.ref ra), z1, some (.ref p7), some (.ref a1), some (.ref a2), some (.ref hb), some y1]) rfl ⟨z1, p7, some (.ref hb), some y1, rfl, ((sTy.trans s8).trans w6).trans w7, ?_⟩
            rw [efo, List.map_append]
            exact upd_same
        · rintro σ Hy ⟨z1, fa, z2, z3, rfl, sy, hfa⟩
          exact ⟨_, rfl, kk _ fa (sC.trans sy) (by rw [efin]; exact SqL.of hfa)⟩
end
end K6
set_option Elab.async false
set_option linter.all false
set_option maxRecDepth 100000
set_option maxHeartbeats 4000000
namespace K6
open PySem PySem.Spec PyProof.Rows L2
section
variable {P : Program} {w : World} {K : PySem.W.Frag} {mg : Str → Option Value} {base : Heap} {D : Ads}
/-- a row of ints -/
def RowL (H : Hp) (v : V) (row : List Int) : Prop := ∃ a, v = .ref a ∧ H a = some (.lst (row.map V.int))
theorem rowL_mono : ∀ (H H' : Hp) (v : V) (row : List Int), Same H H' → RowL H v row → RowL H' v row := fun _ _ _ _ s ⟨a, e, h⟩ => ⟨a, e, s _ _ h⟩
/-- the rows of the pieces of wd, m cells in all -/
def SpR (wd : List Int) (m : Nat) (row : List Int) : Prop := ∃ sz : List Nat, row = expand wd sz ∧ sz.length = wd.length ∧ Pos sz ∧ sz.sum = m
theorem spR_one {a : Int} {m : Nat} {row : List Int} : SpR [a] m row ↔ 0 < m ∧ row = List.replicate m a := by
  constructor
  · rintro ⟨sz, rfl, h1, h2, h3⟩
    match sz, h1 with
    | [n], _ =>
      have hn : n = m := by simpa using h3
      subst hn
      exact ⟨h2 n (by simp), by simp [expand]⟩
  · rintro ⟨h, rfl⟩
    exact ⟨[m], by simp [expand], rfl, fun k hk => by rw [List.mem_singleton.mp hk]; exact h, by simp⟩
theorem spR_cons {a : Int} {rest : List Int} {m : Nat} {row : List Int} (hr : 0 < rest.length) : SpR (a :: rest) m row ↔ ∃ n, 1 ≤ n ∧ n < m ∧ ∃ r', row = List.replicate n a ++ r' ∧ SpR rest (m - n) r' := by
  constructor
  · rintro ⟨sz, rfl, h1, h2, h3⟩
    match sz, h1 with
    | n :: sz', h1 =>
      have l1 : sz'.length = rest.length := by simpa using h1
      have p' : Pos sz' := fun k hk => h2 k (List.mem_cons_of_mem _ hk)
      have := len_le_sum p'
      have hs : n + sz'.sum = m := by simpa using h3
      exact ⟨n, h2 n (by simp), by omega, _, rfl, sz', rfl, l1, p', by omega⟩
  · rintro ⟨n, h1, h2, r', rfl, sz', rfl, l1, p', h3⟩
    refine ⟨n :: sz', rfl, by simp [l1], fun k hk => ?_, by simp; omega⟩
    rcases List.mem_cons.mp hk with e | e
    · omega
    · exact p' k e
def spSpread (K : PySem.W.Frag) (n : Nat) : Sp := fun vs H Q _ => ∃ (wa : Addr) (wd : List Int) (m : Nat), vs = [.ref wa, .int m] ∧ SqT K H wa (wd.map V.int) ∧ wd.length = n + 1 ∧ n ≤ 3 ∧ m ≤ 16 ∧
  ∀ H' p xs rows, Same H H' → H' p = some (.lst xs) → AllR RowL H' xs rows → (∀ row, row ∈ rows ↔ SpR wd m row) → rows.length ≤ 16 ^ n → Q (.ref p) H'
theorem ok_lawSpread (T : Txt K mg D) : ∀ n : Nat, FnOk P w K mg base CX0 (n + 1) (D.d 68).f (D.d 68).fd ["_law_word", "_law_width"] (spSpread K n)
  | 0 => by
    refine T.w68.F.ok scLawSpread (fun vs H Q E h => ?_) (fun cdv A outer s H vs Q E hr h => ?_)
    · obtain ⟨_, _, _, rfl, _⟩ := h
      rfl
    · obtain ⟨wa, wd, m, rfl, hw, hl, hn, hm, k⟩ := h
      refine ⟨_, pss_cons (ps_if (pt_cmpR op_eq (pe_callB call_len_seq (by rfl) T.len boot_len (pa_cons (pv 0) pa_nil)) pe_int (nomark _)) (pss_one (ps_ret (pe_ifExp (pt_cmpR op_gt (pv 1) pe_int (nomark _)) (pe_lst (pa_cons (pe_op op_rep (pe_lst (pa_cons (pe_ix ix_tup (pv 0) pe_int (fun _ _ => rfl)) pa_nil)) (pv 1)) pa_nil)) (pe_lst pa_nil)))) pss_nil) pss_never, ?_⟩
      match wd, hl with
      | [a], _ =>
        refine ⟨_, rfl, _, _, rfl, .inr hw, rfl, true, rfl, iteT ?_⟩
        refine ⟨_, rfl, _, _, rfl, rfl, decide (0 < m), congrArg V.bl (decide_eq_decide.mpr (by omega)), ?_⟩
        by_cases h0 : 0 < m
        · rw [decide_eq_true h0]
          refine iteT ?_
          refine ⟨_, rfl, wa, _, _, .int a, rfl, rfl, hw, at_of (j := 0) rfl rfl, small1, fun q hq => ?_⟩
          refine ⟨_, rfl, q, _, _, rfl, rfl, upd_same, by omega, by omega, by show 1 * ((m : Int)).toNat ≤ _; rw [sizeLine_eq]; omega, fun p hp => ⟨small1, fun p2 hp2 => ?_⟩⟩
          have t := ((same_new (o := .lst [.int a]) hq).trans (same_new (o := .lst (List.replicate ((m : Int)).toNat [V.int a]).flatten) hp)).trans (same_new (o := .lst [.ref p]) hp2)
          refine k _ p2 [.ref p] [List.replicate m a] t upd_same (AllR.snoc .nil ⟨p, rfl, ?_⟩) (fun row => by rw [spR_one, List.mem_singleton]; exact ⟨fun e => ⟨h0, e⟩, fun e => e.2⟩) (by simp)
          refine (same_new hp2) _ _ ?_
          rw [upd_same, List.map_replicate, rep_flat]; rfl
        · rw [decide_eq_false h0]
          refine iteF ⟨Nat.zero_le _, fun p hp => ?_⟩
          exact k _ p [] [] (same_new hp) upd_same .nil (fun row => by rw [spR_one]; simp [h0]) (by simp)
  | n + 1 => by
    have hd := ok_lawSpread T n
    refine T.w68.F.ok scLawSpread (fun vs H Q E h => ?_) (fun cdv A outer s H vs Q E hr h => ?_)
    · obtain ⟨_, _, _, rfl, _⟩ := h
      rfl
    · obtain ⟨wa, wd, m, rfl, hw, hl, hn, hm, k⟩ := h
      refine ⟨_, (pss_cons (ps_if (pt_cmpR op_eq (pe_callB call_len_seq (by rfl) T.len boot_len (pa_cons (pv 0) pa_nil)) pe_int (nomark _)) (pss_one (ps_ret (pe_ifExp (pt_cmpR op_gt (pv 1) pe_int (nomark _)) (pe_lst (pa_cons (pe_op op_rep (pe_lst (pa_cons (pe_ix ix_tup (pv 0) pe_int (fun _ _ => rfl)) pa_nil)) (pv 1)) pa_nil)) (pe_lst pa_nil)))) pss_nil)
      (pss_cons (ps_set (i := 2) scLawSpread.nd rfl (by first | exact Or.inl rfl | exact Or.inr rfl) (pe_lst pa_nil))
      (pss_cons (ps_for PassesOwn.never rfl (pi_range2 (by rfl) T.range (pa_cons pe_int (pa_cons (pv 1) pa_nil))) (pg_name (i := 3) scLawSpread.nd rfl (by first | exact Or.inl rfl | exact Or.inr rfl)) (pss_one (ps_set (i := 2) scLawSpread.nd rfl (by first | exact Or.inl rfl | exact Or.inr rfl) (pe_op op_cat (pv 2) (pe_lc (own := [("_law_row", 4)]) (by rfl) scLawSpread.nd (pi_list (pe_call (hd) (hr.mono (by omega)) (by rfl) T.w68.m T.w68.F.kp T.w68.B .nil pass0 (pa_cons (pe_slice sl_tupA (pv 0) (po_some pe_int) po_none) (pa_cons (pe_op op_sub (pv 1) (pv 3)) pa_nil)))) (blkOk_by (own := [("_law_row", 4)]) (N := ["_law_word", "_law_width", "_law_found", "_law_size", "_law_row"]) (sc := defScope sLawSpread) (by decide +kernel)) (fun _ _ _ _ _ => (pg_name (i := 4) scLawSpread.nd rfl (by first | exact Or.inl rfl | exact Or.inr rfl))) (fun _ _ _ _ _ => pts_nil) (fun _ _ _ _ _ => (pe_op op_cat (pe_op op_rep (pe_lst (pa_cons (pe_ix (ix_tupK K (by rfl)) (pv 0) pe_int (fun _ _ => rfl)) pa_nil)) (pv 3)) (pv 4))))))))
      (pss_one (ps_ret (pv 2)))))), ?_⟩
      match wd, hl with
      | a :: rest, hl =>
        have hrl : rest.length = n + 1 := by simpa using hl
        have zl : sizeLine = 16777216 := sizeLine_eq
        have p16 : 16 ^ (n + 1) ≤ 4096 := Nat.le_trans (Nat.pow_le_pow_right (by decide) hn) (by decide)
        have p16n : 16 ^ (n + 1) = 16 * 16 ^ n := by rw [Nat.pow_succ]; omega
        refine ⟨_, rfl, _, _, rfl, .inr hw, rfl, false, ?_, iteF ?_⟩
        · refine congrArg V.bl (decide_eq_false fun e => ?_)
          injection e with e
          rw [List.length_map] at e
          simp at e; omega
        refine ⟨Nat.zero_le _, fun pf hpf => ?_⟩
        have s0 := same_new (o := .lst []) hpf
        have hf0 : (upd H pf (.lst [])) pf = some (.lst []) := upd_same
        refine gn_st (σ' := [some (.ref wa), some (.int m), some (.ref pf), none, none]) rfl ?_
        generalize upd H pf (.lst []) = H1 at s0 hf0 ⊢
        refine ⟨_, rfl, _, _, rfl, by omega, ?_⟩
        refine for_it (walk_range (lo := 1) (n := ((m : Int) - 1).toNat)) (fun i σ Hx => ∃ z1 z2 fa xs rows, σ = [some (.ref wa), some (.int m), some (.ref fa), z1, z2] ∧ Same H Hx ∧ Hx fa = some (.lst xs) ∧ AllR RowL Hx xs rows ∧ (∀ row, row ∈ rows ↔ ∃ c, 1 ≤ c ∧ c ≤ i ∧ ∃ r', row = List.replicate c a ++ r' ∧ SpR rest (m - c) r') ∧ rows.length ≤ i * 16 ^ n)
          ⟨none, none, pf, [], [], rfl, s0, hf0, .nil, fun row => ⟨fun h => by simp at h, fun ⟨c, h1, h2, _⟩ => by omega⟩, by simp⟩ (fun i σ Hx _ _ => trivial) ?_ ?_
        · rintro i x σ Hx' Hx hi ⟨z1, z2, fa, xs, rows, rfl, sx, hfa, hA, hmem, hlen⟩ ⟨rfl, rfl⟩
          have him : i + 1 < m := by omega
          have hi16 : i * 16 ^ n ≤ 16 * 16 ^ n := Nat.mul_le_mul_right _ (by omega)
          refine gn_st (σ' := [some (.ref wa), some (.int m), some (.ref fa), some (.int ((i + 1 : Nat) : Int)), z2]) (by show [_, _, _, some (V.int (1 + (i : Int))), _] = _; rw [Int.add_comm]; rfl) ?_
          dsimp only
          refine ⟨_, rfl, ?_⟩
          refine ⟨_, rfl, _, rfl, no_part (slA_of (tupS sx hw) (cut_drop 1 rfl) fun q H2 t2 hq => ?_)⟩
          refine ⟨_, rfl, _, rfl, _, _, rfl, rfl, ?_⟩
          have em : (m : Int) - ((i + 1 : Nat) : Int) = ((m - (i + 1) : Nat) : Int) := by omega
          refine ⟨q, rest, m - (i + 1), by show [V.ref q, V.int ((m : Int) - ((i + 1 : Nat) : Int))] = _; rw [em], hq, hrl, by omega, by omega, fun H3 p3 ys3 rows3 s3 hp3 hA3 hm3 hl3 => ?_⟩
          have s23 := t2.trans s3
          refine ⟨p3, rfl, ⟨_, SqL.of hp3⟩, fun Dd hDd => ?_⟩
          have ly : ys3.length = rows3.length := hA3.1
          have z16 : 16 ^ n ≤ 4096 := by omega
          refine lc_map (walk_list (K := K) (a := p3) (xs := ys3)) (fun j y Hz => ∃ r', rows3[j]? = some r' ∧ RowL Hz y (List.replicate (i + 1) a ++ r')) hDd (by omega) (fun j y Ha Hb s ⟨r', e, h⟩ => ⟨r', e, rowL_mono _ _ _ _ s h⟩) (fun H' s => s.seq (SqL.of hp3)) ?_ ?_
          · rintro j y Ha Hb Kk hj sa ⟨rfl, ey⟩ kk
            obtain ⟨r', er, ra, rfl, hra⟩ := hA3.2 j y ey
            have hr16 : r'.length ≤ 16 := by
              obtain ⟨sz, h1, h2, h3, h4⟩ := (hm3 r').mp (List.mem_of_getElem? er)
              rw [h1, expand_length _ _ h2.symm, h4]; omega
            have sAll := (sx.trans s23).trans sa
            refine ⟨rfl, _, rfl, wa, _, _, .int a, rfl, rfl, tupS sAll hw, at_of (j := 0) rfl rfl, small1, fun q5 hq5 => ?_⟩
            refine ⟨_, rfl, q5, _, _, rfl, rfl, upd_same, by omega, by omega, by show 1 * (((i + 1 : Nat) : Int)).toNat ≤ _; omega, fun q6 hq6 => ?_⟩
            have u5 := same_new (o := .lst [V.int a]) hq5
            have u6 := same_new (o := .lst (List.replicate (((i + 1 : Nat) : Int)).toNat [V.int a]).flatten) hq6
            refine ⟨_, rfl, q6, ra, _, _, rfl, rfl, upd_same, (u5.trans u6) _ _ (sa _ _ hra), ?_, fun q7 hq7 => ?_⟩
            · rw [rep_flat, List.length_replicate, List.length_map]
              show i + 1 + _ ≤ _
              omega
            · have u7 := same_new (o := .lst ((List.replicate (((i + 1 : Nat) : Int)).toNat [V.int a]).flatten ++ r'.map V.int)) hq7
              have u567 := (u5.trans u6).trans u7
              refine kk _ _ u567 ⟨r', er, q7, rfl, ?_⟩
              have n7 : Hb q7 = none := by
                cases z : Hb q7 with
                | none => rfl
                | some u => rw [(u5.trans u6) _ _ z] at hq7; cases hq7
              rw [fsh_none n7, upd_same, rep_flat, List.map_append, List.map_replicate]
              rfl
          · intro H4 us s4 e4 l4 r4
            have sx4 := (sx.trans s23).trans s4
            have hfa4 := (s23.trans s4) _ _ hfa
            have hA4 : AllR RowL H4 us (rows3.map fun r' => List.replicate (i + 1) a ++ r') := ⟨by rw [l4, List.length_map, ly], fun j y e => by
              obtain ⟨r', e1, e2⟩ := r4 j y e
              exact ⟨_, by rw [List.getElem?_map, e1]; rfl, rowL_mono _ _ _ _ own_le e2⟩⟩
            have hlx : xs.length = rows.length := hA.1
            refine ⟨fa, Dd, _, _, rfl, rfl, hfa4, e4, by omega, fun p8 hp8 => ?_⟩
            have u8 := same_new (o := .lst (xs ++ us)) hp8
            refine gn_st (σ' := [some (.ref wa), some (.int m), some (.ref p8), some (.int ((i + 1 : Nat) : Int)), z2]) rfl ?_
            have hAx : AllR RowL (upd H4 p8 (.lst (xs ++ us))) xs rows := hA.mono rowL_mono ((s23.trans s4).trans u8)
            refine ⟨_, _, p8, xs ++ us, rows ++ rows3.map fun r' => List.replicate (i + 1) a ++ r', rfl, sx4.trans u8, upd_same, hAx.append (hA4.mono rowL_mono u8), fun row => ?_, ?_⟩
            · rw [List.mem_append, hmem]
              constructor
              · rintro (⟨c, h1, h2, h3⟩ | h)
                · exact ⟨c, h1, by omega, h3⟩
                · obtain ⟨r', h1, rfl⟩ := List.mem_map.mp h
                  exact ⟨i + 1, by omega, Nat.le_refl _, r', rfl, (hm3 r').mp h1⟩
              · rintro ⟨c, h1, h2, r', rfl, h4⟩
                by_cases hc : c = i + 1
                · subst hc
                  exact .inr (List.mem_map.mpr ⟨r', (hm3 r').mpr h4, rfl⟩)
                · exact .inl ⟨c, h1, by omega, r', rfl, h4⟩
            · rw [List.length_append, List.length_map, Nat.add_mul]
              omega
        · rintro σ Hx ⟨z1, z2, fa, xs, rows, rfl, sx, hfa, hA, hmem, hlen⟩
          refine ⟨_, rfl, k _ fa xs rows sx hfa hA (fun row => ?_) ?_⟩
          · rw [hmem, spR_cons (by omega)]
            constructor
            · rintro ⟨c, h1, h2, r', h3, h4⟩
              exact ⟨c, h1, by omega, r', h3, h4⟩
            · rintro ⟨c, h1, h2, r', h3, h4⟩
              exact ⟨c, h1, by omega, r', h3, h4⟩
          · have : ((m : Int) - 1).toNat * 16 ^ n ≤ 16 * 16 ^ n := Nat.mul_le_mul_right _ (by omega)
            omega
end
end K6
set_option Elab.async false
set_option linter.all false
set_option maxRecDepth 100000
set_option maxHeartbeats 4000000
namespace K6
open PySem PySem.Spec PyProof.Rows L2 L2H
section
variable {P : Program} {w : World} {K : PySem.W.Frag} {mg : Str → Option Value} {base : Heap} {D : Ads}
def spSays : Sp := fun vs H Q _ => ∃ a b : Bool, vs = [.bl a, .bl b] ∧ Q (.bl (decide (a = b))) H
theorem ok_lawSays (T : Txt K mg D) : FnOk P w K mg base CX0 1 (D.d 63).f (D.d 63).fd ["_law_told", "_law_due"] spSays := by
  refine T.w63.F.ok scLawSays (fun vs H Q E h => ?_) (fun cdv A outer s H vs Q E hr h => ?_)
  · obtain ⟨_, _, rfl, _⟩ := h
    rfl
  · obtain ⟨a, b, rfl, k⟩ := h
    refine ⟨_, (pss_one (ps_ret (pe_and (pe_callB call_isi (by rfl) T.isinstance boot_isinstance (pa_cons (pv 0) (pa_cons (pe_bltn (v := .ty "bool") (by rfl) T.bool boot_bool rfl) pa_nil))) (pe_one (pe_cmpR op_eq (pv 0) (pv 1) (nomark _)))))), ?_⟩
    refine ⟨_, rfl, _, _, _, _, true, rfl, .ty _, .base (.bl _), kit_ty (by decide +kernel), true, rfl, iteT ?_⟩
    refine ⟨_, rfl, _, rfl, rfl, ?_⟩
    have e : decide (V.bl a = V.bl b) = decide (a = b) := by cases a <;> cases b <;> rfl
    rw [e]
    exact k
/-- done at any size -/
def spDoneA (K : PySem.W.Frag) : Sp := fun vs H Q E => ∃ k, k ≤ 21 ∧ spDone K k vs H Q E
theorem ok_lawDoneA (T : Txt K mg D) : FnOk P w K mg base CX0 24 (D.d 67).f (D.d 67).fd ["_law_looms", "_law_name", "_law_row"] (spDoneA K) where
  len := fun vs H Q E ⟨k, _, h⟩ => (ok_lawDone (P := P) (w := w) (base := base) T k).len vs H Q E h
  run := fun A outer s H args us vs Q E hr he hb hv ⟨k, hk, h⟩ => (ok_lawDone (P := P) (w := w) (base := base) T k).run A outer s H args us vs Q E (hr.mono (by omega)) he hb hv h
def spSpreadA (K : PySem.W.Frag) : Sp := fun vs H Q E => ∃ n, n ≤ 3 ∧ spSpread K n vs H Q E
theorem ok_lawSpreadA (T : Txt K mg D) : FnOk P w K mg base CX0 4 (D.d 68).f (D.d 68).fd ["_law_word", "_law_width"] (spSpreadA K) where
  len := fun vs H Q E ⟨n, _, h⟩ => (ok_lawSpread (P := P) (w := w) (base := base) T n).len vs H Q E h
  run := fun A outer s H args us vs Q E hr he hb hv ⟨n, hn, h⟩ => (ok_lawSpread (P := P) (w := w) (base := base) T n).run A outer s H args us vs Q E (hr.mono (by omega)) he hb hv h
theorem op_neDK {X : Cx} (K : PySem.W.Frag) (hK : X.K = K) (hu : X.A.units + 64 < cLine) : OpR X (compareOp .NotEq) (rNeD K) := by subst hK; exact op_neD hu
theorem call_tuple_ofK {X : Cx} (K : PySem.W.Frag) (hK : X.K = K) : CallR X (.type "tuple") (fun xs H Q => ∃ p ys, xs = [.ref p] ∧ ((SqL K H p ys ∧ ∀ l, H l = none → Q (.ref l) (upd H l (.tup ys))) ∨ (SqT K H p ys ∧ Q (.ref p) H))) := by subst hK; exact call_tuple_of
theorem takesN0 {X : Cx} : L2N.Takes X (fun _ _ _ _ => False) := fun u s' ⟨_, _, _, _, _, _, _, _, _, _, _, _, _, _, _, _, z⟩ => z.elim
theorem hot_suite {X : Cx} {a : Addr} {oe : Obj} {cls : Value} {d : Option Addr} {pn : List (Addr × Obj)} (hz : L2N.Zn cls d oe) (hf : ∃ vs, oe.data = .fields vs) : HotC (X.suite a ((a, oe) :: pn)) := by
  obtain ⟨vs, e⟩ := hf
  exact ⟨(a, oe), ⟨rfl, vs, e, hz.2.2 vs e⟩, List.mem_cons_self⟩
end
/-! the scopes of the comprehensions in a comprehension -/
def lcScope : Expr → Scope
  | .ListComp _ _ sc _ => sc
  | _ => default
def lcElt : Expr → Expr
  | .ListComp e _ _ _ => e
  | e => e
def asgVal : Stmt → Expr
  | .Assign _ e _ => e
  | _ => default
abbrev scWords : Scope := lcScope (asgVal ((defBody sLaw).getD 3 (.Pass ⟨0, 0, 0, 0⟩)))
end K6
set_option Elab.async false
set_option linter.all false
set_option maxRecDepth 100000
set_option maxHeartbeats 4000000
namespace K6
open PySem PySem.Spec PyProof.Rows L2
theorem mergeK_nd {kvs more : List (L2.Key × V)} (h : ((kvs ++ more).map Prod.fst).Nodup) : mergeK kvs more = kvs ++ more := by
  induction more generalizing kvs with
  | nil => simp [mergeK]
  | cons kv r ih =>
    show mergeK (putK kvs kv.1 kv.2) r = _
    have hn : valV kvs kv.1 = none := by
      cases e : valV kvs kv.1 with
      | none => rfl
      | some x =>
        have m1 : kv.1 ∈ kvs.map (·.1) := valV_in e
        rw [List.map_append, List.nodup_append] at h
        exact absurd rfl (h.2.2 kv.1 m1 kv.1 (by simp))
    rw [putK_new kv.2 hn]
    have e : kvs ++ [(kv.1, kv.2)] ++ r = kvs ++ kv :: r := by simp
    rw [ih (by rw [e]; exact h), e]
/-- a comprehension over which numbers are drawn -/
theorem lc_drawD {α : Type} {K : PySem.W.Frag} {J : It} {n : Nat} {G : Hp → Prop} {Y : Nat → Hp → V → Hp → Prop} (w : Walk J n G Y) {g : TG} {te : TE} {vs : List Nat} {σ : L2.St} {H1 : Hp} {D : Addr} {Qd : Hp → Prop} (f : α → PyData) (hf : ∀ a, noL (f a) = true) (Pc : Nat → α → Prop)
    {d sa : Addr} {ns : List Int} {n0 : Nat} (hD : H1 D = none) (hd : DrawAt H1 d sa ns n0) (hn : n ≤ sizeLine) (hG : ∀ H', Same (drp [d] H1) H' → G H')
    (hs : ∀ i x Ha Hb (Kk : V → Hp → Prop) n', i < n → Same (drp [d] H1) Ha → DrawAt Ha d sa ns n' → Y i Ha x Hb → (∀ y H4 n4 c, Same (drp [d] Ha) H4 → DrawAt H4 d sa ns n4 → Dp K H4 y (f c) → Pc i c → Kk y H4) →
      g x (wipe σ vs) Hb fun σ2 H2 => wipe σ2 vs = wipe σ vs ∧ te σ2 H2 Kk)
    (hdone : ∀ H' ys cs n', Same (drp [d] H1) H' → DrawAt H' d sa ns n' → H' D = some (.lst ys) → ys.length = n → AllR (fun H v c => Dp K H v (f c)) H' ys cs → (∀ (i : Nat) c, cs[i]? = some c → Pc i c) → Qd H') :
    ∃ W : Nat → Nat → Hp → Prop, (∃ m, W 0 m (upd H1 D (.lst []))) ∧ ∀ i m H, W i m H →
      (J.stop i H ∧ Qd H) ∨ (J.go i H ∧ ∃ Nx : Hp → Prop, (∀ H', Nx H' → ∃ m', m' < m ∧ W (i + 1) m' H') ∧ ∀ x H', J.yld i H x H' → g x (wipe σ vs) H' fun σ2 H2 => wipe σ2 vs = wipe σ vs ∧ tYes σ2 H2 fun b H3 =>
        if b = true then te σ2 H3 fun y H4 => ∃ acc, H4 D = some (.lst acc) ∧ acc.length < sizeLine ∧ Nx (upd H4 D (.lst (acc ++ [y]))) else Nx H3) := by
  have nd : D ≠ d := fun z => by rw [z, hd.hd] at hD; cases hD
  have nsa : D ≠ sa := fun z => by rw [z, hd.hs] at hD; cases hD
  refine lc_it w (fun i Hx => ∃ acc cs n', Same (drp [d] H1) Hx ∧ DrawAt Hx d sa ns n' ∧ Hx D = some (.lst acc) ∧ AllR (fun H v c => Dp K H v (f c)) (drp [d, D] Hx) acc cs ∧ acc.length = i ∧ ∀ (j : Nat) c, cs[j]? = some c → Pc j c)
    ⟨[], [], n0, da_put drp_le hD, hd.put nd nsa, upd_same, .nil, rfl, fun j c e => by simp at e⟩ (fun i Hx _ ⟨_, _, _, s, _⟩ => hG Hx s) ?_ ?_
  · rintro i x Ha Hb hi ⟨acc, cs, n', sx, hdx, hDx, hA, hl, hp⟩ y
    have q := hs i x Ha Hb (fun y H4 => ∃ acc, H4 D = some (.lst acc) ∧ acc.length < sizeLine ∧ ∃ acc' cs' n', Same (drp [d] H1) (upd H4 D (.lst (acc ++ [y]))) ∧ DrawAt (upd H4 D (.lst (acc ++ [y]))) d sa ns n' ∧ (upd H4 D (.lst (acc ++ [y]))) D = some (.lst acc') ∧ AllR (fun H v c => Dp K H v (f c)) (drp [d, D] (upd H4 D (.lst (acc ++ [y])))) acc' cs' ∧ acc'.length = i + 1 ∧ ∀ (j : Nat) c, cs'[j]? = some c → Pc j c) n' hi sx hdx y
      (fun y H4 n4 c s4 hd4 hy hc => by
        have hD4 := da_get s4 hDx nd
        have ml : ∀ l ∈ [d, D], ∃ o, H4 l = some o ∧ isTup o = false := fun l hl => by
          rcases List.mem_cons.mp hl with e | e
          · rw [e]; exact ⟨_, hd4.hd, rfl⟩
          · rw [List.mem_singleton.mp e]; exact ⟨_, hD4, rfl⟩
        refine ⟨acc, hD4, by omega, acc ++ [y], cs ++ [c], n4, da_put (da_trans sx s4) hD, hd4.put nd nsa, upd_same, ?_, by simp [hl], fun j c' e => ?_⟩
        · rw [drp_upd (by simp)]
          exact (hA.mono (fun _ _ _ _ s h => h.mono s) (off_da s4 (by simp))).snoc (dp_off ml (hf c) hy)
        · by_cases hj : j < cs.length
          · rw [List.getElem?_append_left hj] at e
            exact hp j c' e
          · have hlt := (List.getElem?_eq_some_iff.mp e).1
            rw [List.length_append, List.length_singleton] at hlt
            have hj2 : j = cs.length := by omega
            have hj3 : j = i := by rw [hj2, ← hA.1, hl]
            rw [hj2, List.getElem?_append_right (Nat.le_refl _)] at e
            simp at e
            rw [← e, hj3]
            exact hc)
    exact q
  · rintro Hx ⟨acc, cs, n', sx, hdx, hDx, hA, hl, hp⟩
    exact hdone Hx acc cs n' sx hdx hDx hl (hA.mono (fun _ _ _ _ s h => h.mono s) drp_le) hp
/-- pairs for dict(..) -/
theorem dict_pairs {K : PySem.W.Frag} {H : Hp} : ∀ {ys : List V} {cs : List (Nat × Loom)}, DpAll K H ys (cs.map fun c => .tuple [.str (nmS c.1), loomD c.2]) →
    ∃ (ps : List Addr) (kvs : List (L2.Key × V)), ys = ps.map V.ref ∧ Paired (fun p kv => SqT K H p [kV kv.1, kv.2]) ps kvs ∧ kvs.map Prod.fst = cs.map (fun c => (Sum.inr (nmS c.1) : L2.Key)) ∧ DpAll K H (kvs.map Prod.snd) (cs.map fun c => loomD c.2)
  | _, [], .nil => ⟨[], [], rfl, .nil, rfl, .nil⟩
  | _, c :: cs, .cons h k => by
    obtain ⟨ps, kvs, rfl, h1, h2, h3⟩ := dict_pairs k
    obtain ⟨a, xs, rfl, h4, h5⟩ := h.tuple
    cases h5 with
    | cons k0 h5 =>
      cases h5 with
      | cons k1 h5 =>
        cases h5
        cases k0
        exact ⟨a :: ps, (Sum.inr (nmS c.1), _) :: kvs, rfl, .cons h4 h1, by simp [h2], .cons k1 h3⟩
theorem names_nodup {m : Nat} (h : m ≤ 3) : ((List.range m).map fun i => (Sum.inr (nmS i) : L2.Key)).Nodup := by
  match m, h with
  | 0, _ => decide +kernel
  | 1, _ => decide +kernel
  | 2, _ => decide +kernel
  | 3, _ => decide +kernel
end K6
set_option Elab.async false
set_option linter.all false
set_option maxRecDepth 100000
set_option maxHeartbeats 4000000
namespace K6
open PySem PySem.Spec PyProof.Rows L2
/-- what the law has drawn -/
structure LwF (K : PySem.W.Frag) (H : Hp) (v : V) (na wa th : Addr) (L : Looms) (xs : List V) (ws : List (List Int)) (tl : List Int) (k : Nat) : Prop where
  names : SqL K H na ((List.range L.length).map fun i => V.str (nmS i))
  looms : LoomsAt K H v L
  ok : LOk L
  words : SqL K H wa xs
  wd : DpAll K H xs (ws.map wD)
  wok : WordsOk ws
  w0 : 0 < ws.length
  w2 : ws.length ≤ 2
  things : SqL K H th (tl.map V.int)
  tlen : tl.length = 2 ^ k
  k3 : k ≤ 3
theorem LwF.mono {K : PySem.W.Frag} {H H' : Hp} {v : V} {na wa th : Addr} {L : Looms} {xs : List V} {ws : List (List Int)} {tl : List Int} {k : Nat} (s : Same H H') (h : LwF K H v na wa th L xs ws tl k) : LwF K H' v na wa th L xs ws tl k :=
  ⟨s.seq h.names, h.looms.mono s, h.ok, s.seq h.words, h.wd.mono s, h.wok, h.w0, h.w2, s.seq h.things, h.tlen, h.k3⟩
abbrev aCall2 (sp : Sp) (t u : TE) : TE := tCall sp [] E0 (tCons t (tCons u tNil))
abbrev rTupOf (K : PySem.W.Frag) : List V → Hp → VK → Prop := fun xs H Q => ∃ p ys, xs = [.ref p] ∧ ((SqL K H p ys ∧ ∀ l, H l = none → Q (.ref l) (upd H l (.tup ys))) ∨ (SqT K H p ys ∧ Q (.ref p) H))
abbrev tDraw (K : PySem.W.Frag) : TE := tLst (tCons (tSl (rSlL K) (tVar 0) tNoPart (tPart (tC (.int 63)))) (tCons (tC (.int 0)) (tCons (tC (.int 0)) tNil)))
abbrev tNames (K : PySem.W.Frag) : TE := tSl (rSlL K) (tLst (tCons (tC (.str "a")) (tCons (tC (.str "b")) (tCons (tC (.str "c")) tNil)))) tNoPart (tPart (tOp (rI0 fun i j => .int (i + j)) (tC (.int 1)) (aCall2 spNext (tVar 1) (tC (.int 3)))))
abbrev tLooms (K : PySem.W.Frag) : TE := tCB (fun xs H Q => ∃ (a : Addr) (ps : List Addr) (kvs : List (L2.Key × V)), xs = [.ref a] ∧ SqL K H a (ps.map V.ref) ∧ Paired (fun p kv => SqT K H p [kV kv.1, kv.2]) ps kvs ∧ ∀ p, H p = none → Q (.ref p) (upd H p (.dK (mergeK [] kvs))))
  (tCons (tLc (iList K (tVar 2)) (gName 17) tYes (tTup (tCons (tVar 17) (tCons (aCall2 (spLoom K) (tVar 1) (tVar 2)) tNil))) [17]) tNil)
abbrev tWords (K : PySem.W.Frag) : TE := tLc (iRng1 (tCons (tOp (rI0 fun i j => .int (i + j)) (tC (.int 1)) (aCall2 spNext (tVar 1) (tC (.int 2)))) tNil)) (gName 15) tYes
  (tCB (rTupOf K) (tCons (tLc (iRng1 (tCons (tOp (rI0 fun i j => .int (i + j)) (tC (.int 1)) (aCall2 spNext (tVar 1) (tC (.int 4)))) tNil)) (gName 16) tYes (aCall2 spNext (tVar 1) (tC (.int 2))) [16]) tNil)) [15]
abbrev tOrder (K : PySem.W.Frag) : TE := aCall2 (spPick K) (tVar 1) (tLst (tCons (tC (.str "up")) (tCons (tC (.str "up")) (tCons (tC (.str "down")) tNil))))
abbrev tThings (K : PySem.W.Frag) : TE := tLc (iRng1 (tCons (aCall2 (spPick K) (tVar 1) (tLst (tCons (tC (.int 1)) (tCons (tC (.int 2)) (tCons (tC (.int 4)) (tCons (tC (.int 8)) tNil)))))) tNil)) (gName 16) tYes (aCall2 spNext (tVar 1) (tC (.int 30))) [16]
section
variable {K : PySem.W.Frag}
theorem nD {H : Hp} {d sa q : Addr} {ns : List Int} {n : Nat} (h : DrawAt H d sa ns n) (e : H q = none) : q ≠ d ∧ q ≠ sa := ⟨fun z => (by rw [z, h.hd] at e; cases e), fun z => (by rw [z, h.hs] at e; cases e)⟩
theorem noL_pair (c : Nat × Loom) : noL (.tuple [.str (nmS c.1), loomD c.2]) = true := by
  rw [noL, noLs, noLs, noLs, noL_str, noL_loom]
  rfl
theorem dpAll_off {ls : List Addr} {H : Hp} {vs : List V} {ds : List PyData} (h : ∀ l ∈ ls, ∃ o, H l = some o ∧ isTup o = false) (n : noLs ds = true) (hd : DpAll K H vs ds) : DpAll K (drp ls H) vs ds := (dpAll_own (Same.refl _) h n hd).mono (drp_same fsh_le)
theorem law_setup {D : Ends} {H : Hp} {a : Addr} {ns : List Int} {tr : TS} (hS : SqL K H a (ns.map V.int)) (hlen : ns.length ≤ 63)
    (k : ∀ (z1 : V) (v : V) (na wa th : Addr) (L : Looms) (xs : List V) (ws : List (List Int)) (up : Bool) (tl : List Int) (j : Nat) (H' : Hp), LwF K H' v na wa th L xs ws tl j →
      tr D [some (.ref a), some z1, some (.ref na), some v, some (.ref wa), some (.str (ordS up)), some (.ref th), none, none, none, none, none, none, none, none, none, none, none, none] H') :
    tSeq (tAsg (tDraw K) (gName 1)) (tSeq (tAsg (tNames K) (gName 2)) (tSeq (tAsg (tLooms K) (gName 3)) (tSeq (tAsg (tWords K) (gName 4)) (tSeq (tAsg (tOrder K) (gName 5)) (tSeq (tAsg (tThings K) (gName 6)) tr))))) D
      [some (.ref a), none, none, none, none, none, none, none, none, none, none, none, none, none, none, none, none, none, none] H := by
  have zl : sizeLine = 16777216 := sizeLine_eq
  -- the draws
  refine seq_join (fun v H' => ∃ d sa, v = .ref d ∧ DrawAt H' d sa (ns.take 63) 0) (fun G hG => ?_) ?_
  · refine ⟨_, rfl, no_part ⟨_, rfl, a, _, rfl, hS, fun p hp => ⟨small3, fun d hd => ?_⟩⟩⟩
    refine hG _ _ ⟨d, p, rfl, fun e => ?_, upd_same, ?_⟩
    · rw [e, upd_same] at hd; cases hd
    · rw [upd_ne (fun e => by rw [e, upd_same] at hd; cases hd), upd_same]
      exact congrArg (fun z => some (HO.lst z)) (cut_takeL 63 rfl)
  rintro _ H1 ⟨d, sa, rfl, hd1⟩
  generalize ns.take 63 = ms at hd1
  refine gn_st (σ' := [some (.ref a), some (.ref d), none, none, none, none, none, none, none, none, none, none, none, none, none, none, none, none, none]) rfl ?_
  -- the names
  refine seq_join (fun v H' => ∃ (na : Addr) (m n' : Nat), v = .ref na ∧ na ≠ d ∧ 0 < m ∧ m ≤ 3 ∧ DrawAt H' d sa ms n' ∧ H' na = some (.lst ((List.range m).map fun i => V.str (nmS i)))) (fun G hG => ?_) ?_
  · refine ⟨small3, fun q hq => no_part ?_⟩
    have hdq := hd1.put (o := .lst [.str "a", .str "b", .str "c"]) (nD hd1 hq).1 (nD hd1 hq).2
    refine ⟨_, rfl, d, sa, ms, 3, 0, rfl, hdq, by decide, by decide, fun i H2 n2 i0 i1 s2 hd2 => ⟨_, _, rfl, rfl, _, rfl, q, _, rfl, SqL.of (da_get s2 upd_same (nD hd1 hq).1), fun p hp => ?_⟩⟩
    obtain ⟨j, rfl⟩ := Int.eq_ofNat_of_zero_le i0
    refine hG _ _ ⟨p, j + 1, n2, rfl, (nD hd2 hp).1, by omega, by omega, hd2.put (nD hd2 hp).1 (nD hd2 hp).2, ?_⟩
    rw [upd_same]
    refine congrArg (fun z => some (HO.lst z)) ?_
    rw [cut_take (j + 1) (by simp; omega)]
    have : j = 0 ∨ j = 1 ∨ j = 2 := by omega
    rcases this with rfl | rfl | rfl <;> rfl
  rintro _ H2 ⟨na, m, n2, rfl, hnd, m0, m3, hd2, hna2⟩
  refine gn_st (σ' := [some (.ref a), some (.ref d), some (.ref na), none, none, none, none, none, none, none, none, none, none, none, none, none, none, none, none]) rfl ?_
  -- the looms
  refine seq_join (fun v H' => ∃ (L : Looms) (n' : Nat), L.length = m ∧ LOk L ∧ LoomsAt K H' v L ∧ Same (drp [d] H2) H' ∧ DrawAt H' d sa ms n') (fun G hG => ?_) ?_
  · have hnm : ∀ {Hx}, Same (drp [d] H2) Hx → SqL K Hx na ((List.range m).map fun i => V.str (nmS i)) := fun s => s.seq (sqL_off (SqL.of hna2) hnd)
    refine ⟨_, rfl, na, rfl, ⟨_, SqL.of hna2⟩, fun D1 hD1 => ?_⟩
    refine lc_drawD (K := K) (walk_list (K := K) (a := na) (xs := (List.range m).map fun i => V.str (nmS i))) (fun c : Nat × Loom => .tuple [.str (nmS c.1), loomD c.2]) noL_pair (fun i c => c.1 = i ∧ c.2.steps.length ≤ 3 ∧ ∀ s x, c.2.call s = some x → x.1 < m) hD1 hd2 (by simp; omega) (fun H' s => hnm s) ?_ ?_
    · rintro i x Ha Hb Kk n' hi sa' hda ⟨rfl, ex⟩ kk
      have hi' : i < m := by simpa using hi
      have hx : x = .str (nmS i) := by
        rw [List.getElem?_map, List.getElem?_range hi'] at ex
        exact (Option.some.inj ex).symm
      subst hx
      refine ⟨rfl, _, rfl, _, rfl, _, rfl, d, na, sa, ms, n', m, rfl, hda, hnm sa', hnd, m0, m3, fun v lm H4 n4 s4 hd4 hv h3 hc => ⟨small2, fun q hq => ?_⟩⟩
      have t5 := same_new (o := .tup [.str (nmS i), v]) hq
      exact kk (.ref q) _ n4 (i, lm) (s4.trans t5) (hd4.same t5) (.tup (SqT.of upd_same) (.cons (.str _) (.cons (hv.mono t5) .nil))) ⟨rfl, h3, hc⟩
    · intro H' ys cs n' s3 hd3 hD3 hl hA hp
      obtain ⟨ps, kvs, rfl, h1, h2, h3⟩ := dict_pairs (dpAll_of_all hA)
      refine ⟨D1, ps, kvs, rfl, SqL.of hD3, h1, fun p hp' => ?_⟩
      have cl : cs.length = m := by rw [← hA.1, hl]; simp
      have hcs : cs.map (fun c => (Sum.inr (nmS c.1) : L2.Key)) = (List.range m).map fun i => (Sum.inr (nmS i) : L2.Key) := by
        refine List.ext_getElem (by simp [cl]) fun i a1 a2 => ?_
        have hi : i < cs.length := by simpa using a1
        have := (hp i cs[i] (by simp [hi])).1
        simp [this]
      have hk : mergeK [] kvs = kvs := by
        rw [mergeK_nd (by rw [List.nil_append, h2, hcs]; exact names_nodup m3), List.nil_append]
      rw [hk]
      have t5 := same_new (o := .dK kvs) hp'
      have memc : ∀ lm ∈ cs.map Prod.snd, lm.steps.length ≤ 3 ∧ ∀ s x, lm.call s = some x → x.1 < m := fun lm hlm => by
        obtain ⟨c, hc, rfl⟩ := List.mem_map.mp hlm
        obtain ⟨i, hi⟩ := List.mem_iff_getElem?.mp hc
        exact (hp i c hi).2
      refine hG _ _ ⟨cs.map Prod.snd, n', by simp [cl], ⟨by simp [cl, m0], by simp [cl, m3], fun l hl s c e => ?_, fun l hl => (memc l hl).1⟩, ⟨p, kvs, rfl, upd_same, ?_, ?_⟩, s3.trans t5, hd3.same t5⟩
      · simp only [List.length_map, cl]
        exact (memc l hl).2 s c e
      · rw [h2, hcs]; simp [cl]
      · rw [List.map_map]; exact h3.mono t5
  rintro v H3 ⟨L, n3, rfl, ok, hL3, s3, hd3⟩
  have hna3 : SqL K H3 na ((List.range L.length).map fun i => V.str (nmS i)) := s3.seq (sqL_off (SqL.of hna2) hnd)
  refine gn_st (σ' := [some (.ref a), some (.ref d), some (.ref na), some v, none, none, none, none, none, none, none, none, none, none, none, none, none, none, none]) rfl ?_
  -- the words
  refine seq_join (fun v H' => ∃ (wa : Addr) (xs : List V) (ws : List (List Int)) (n' : Nat), v = .ref wa ∧ wa ≠ d ∧ SqL K H' wa xs ∧ DpAll K H' xs (ws.map wD) ∧ WordsOk ws ∧ 0 < ws.length ∧ ws.length ≤ 2 ∧ Same (drp [d] H3) H' ∧ DrawAt H' d sa ms n') (fun G hG => ?_) ?_
  · refine ⟨_, rfl, d, sa, ms, 2, n3, rfl, hd3, by decide, by decide, fun i H4 n4 i0 i1 s4 hd4 => ⟨_, _, rfl, rfl, _, rfl, by omega, by omega, fun D1 hD1 => ?_⟩⟩
    refine lc_drawD (K := K) (walk_range (lo := 0) (n := (1 + i).toNat)) (fun wd : List Int => wD wd) (fun c => noL_w c) (fun _ wd => Sign wd ∧ 1 ≤ wd.length ∧ wd.length ≤ 4) hD1 hd4 (by omega) (fun _ _ => trivial) ?_ ?_
    · rintro i2 x Ha Hb Kk n' hi sa' hda ⟨rfl, ex⟩ kk
      refine ⟨rfl, _, rfl, d, sa, ms, 4, n', rfl, hda, by decide, by decide, fun j H5 n5 j0 j1 s5 hd5 => ⟨_, _, rfl, rfl, _, rfl, by omega, by omega, fun D2 hD2 => ?_⟩⟩
      refine lc_drawD (K := K) (walk_range (lo := 0) (n := (1 + j).toNat)) (fun z : Int => .int z) (fun c => noL_int c) (fun _ z => z = 0 ∨ z = 1) hD2 hd5 (by omega) (fun _ _ => trivial) ?_ ?_
      · rintro i3 x3 Ha3 Hb3 Kk3 n3' hi3 sa3 hda3 ⟨rfl, ex3⟩ kk3
        refine ⟨rfl, _, rfl, d, sa, ms, 2, n3', rfl, hda3, by decide, by decide, fun z H6 n6 z0 z1 s6 hd6 => ?_⟩
        exact kk3 _ _ n6 z s6 hd6 (.int z) (by omega)
      · intro H' ys cs n' s6 hd6 hD6 hl hA hp
        have hys := DpAll.of_ints (dpAll_of_all hA)
        subst hys
        refine ⟨D2, _, rfl, .inl ⟨SqL.of hD6, fun q hq => ?_⟩⟩
        have t5 := same_new (o := .tup (cs.map V.int)) hq
        rw [List.length_map] at hl
        refine kk (.ref q) _ n' cs ((da_trans s5 s6).trans t5) (hd6.same t5) (.tup (SqT.of upd_same) (DpAll.ints cs)) ⟨fun x hx => ?_, by omega, by omega⟩
        obtain ⟨i, hi⟩ := List.mem_iff_getElem?.mp hx
        exact hp i x hi
    · intro H' ys cs n' s6 hd6 hD6 hl hA hp
      have cl : cs.length = (1 + i).toNat := by rw [← hA.1, hl]
      refine hG _ _ ⟨D1, ys, cs, n', rfl, (nD hd4 hD1).1, SqL.of hD6, dpAll_of_all hA, fun wd hwd => ?_, by omega, by omega, da_trans s4 s6, hd6⟩
      obtain ⟨i, hi⟩ := List.mem_iff_getElem?.mp hwd
      exact hp i wd hi
  rintro _ H4 ⟨wa, xs, ws, n4, rfl, hwd, hwa4, hws4, wok, w0, w2, s4, hd4⟩
  have dl : ∀ {Hx : Hp} {i : Nat}, DrawAt Hx d sa ms i → ∀ l ∈ [d], ∃ o, Hx l = some o ∧ isTup o = false := fun h l hl => by rw [List.mem_singleton.mp hl]; exact ⟨_, h.hd, rfl⟩
  have hna4 : SqL K H4 na ((List.range L.length).map fun i => V.str (nmS i)) := s4.seq (sqL_off hna3 hnd)
  have offL : ∀ {Hx Hy : Hp} {i : Nat}, DrawAt Hx d sa ms i → LoomsAt K Hx v L → Same (drp [d] Hx) Hy → LoomsAt K Hy v L := fun h hv s => by
    obtain ⟨p, kvs, rfl, h1, h2, h3⟩ := hv
    have hp : p ≠ d := fun e => by rw [e, h.hd] at h1; cases h1
    exact ⟨p, kvs, rfl, da_get s h1 hp, h2, (dpAll_off (dl h) (noLs_map noL_loom) h3).mono s⟩
  have hL4 := offL hd3 hL3 s4
  refine gn_st (σ' := [some (.ref a), some (.ref d), some (.ref na), some v, some (.ref wa), none, none, none, none, none, none, none, none, none, none, none, none, none, none]) rfl ?_
  -- the order
  refine seq_join (fun v H' => ∃ (up : Bool) (n' : Nat), v = .str (ordS up) ∧ Same (drp [d] H4) H' ∧ DrawAt H' d sa ms n') (fun G hG => ?_) ?_
  · refine ⟨_, rfl, small3, fun q hq => ⟨d, q, sa, ms, n4, _, rfl, hd4.put (nD hd4 hq).1 (nD hd4 hq).2, SqL.of upd_same, (nD hd4 hq).1, by decide, by decide, fun x H' n' hx s5 hd5 => ?_⟩⟩
    have s6 := da_trans (da_new (a := d) (o := .lst [.str "up", .str "up", .str "down"]) hq) s5
    rcases List.mem_cons.mp hx with rfl | hx
    · exact hG _ _ ⟨true, n', rfl, s6, hd5⟩
    · rcases List.mem_cons.mp hx with rfl | hx
      · exact hG _ _ ⟨true, n', rfl, s6, hd5⟩
      · rw [List.mem_singleton.mp hx]
        exact hG _ _ ⟨false, n', rfl, s6, hd5⟩
  rintro _ H5 ⟨up, n5, rfl, s5, hd5⟩
  have hna5 : SqL K H5 na ((List.range L.length).map fun i => V.str (nmS i)) := s5.seq (sqL_off hna4 hnd)
  have hwa5 : SqL K H5 wa xs := s5.seq (sqL_off hwa4 hwd)
  have hws5 := (dpAll_off (dl hd4) (noLs_map noL_w) hws4).mono s5
  have hL5 := offL hd4 hL4 s5
  refine gn_st (σ' := [some (.ref a), some (.ref d), some (.ref na), some v, some (.ref wa), some (.str (ordS up)), none, none, none, none, none, none, none, none, none, none, none, none, none]) rfl ?_
  -- the things
  refine seq_join (fun v H' => ∃ (th : Addr) (tl : List Int) (j : Nat), v = .ref th ∧ SqL K H' th (tl.map V.int) ∧ tl.length = 2 ^ j ∧ j ≤ 3 ∧ Same (drp [d] H5) H') (fun G hG => ?_) ?_
  · refine ⟨_, rfl, by show 4 ≤ sizeLine; omega, fun q hq => ⟨d, q, sa, ms, n5, _, rfl, hd5.put (nD hd5 hq).1 (nD hd5 hq).2, SqL.of upd_same, (nD hd5 hq).1, by decide, by decide, fun x H' n' hx s6 hd6 => ?_⟩⟩
    have s7 := da_trans (da_new (a := d) (o := .lst [.int 1, .int 2, .int 4, .int 8]) hq) s6
    obtain ⟨j, hj, rfl⟩ : ∃ j : Nat, j ≤ 3 ∧ x = .int ((2 ^ j : Nat) : Int) := by
      simp only [List.mem_cons, List.not_mem_nil, or_false] at hx
      rcases hx with rfl | rfl | rfl | rfl
      · exact ⟨0, by omega, rfl⟩
      · exact ⟨1, by omega, rfl⟩
      · exact ⟨2, by omega, rfl⟩
      · exact ⟨3, by omega, rfl⟩
    have hj2 : 2 ^ j ≤ 8 := Nat.pow_le_pow_right (by omega) hj
    have hj3 : 0 < 2 ^ j := Nat.two_pow_pos j
    have hj4 : ((2 ^ j : Nat) : Int) ≤ 8 := Int.ofNat_le.mpr hj2
    have hj5 : (0 : Int) ≤ ((2 ^ j : Nat) : Int) := Int.natCast_nonneg _
    generalize hP : 2 ^ j = P at hj2 hj3 hj4 hj5 hG ⊢
    refine ⟨_, rfl, by omega, by omega, fun D1 hD1 => ?_⟩
    refine lc_drawD (K := K) (walk_range (lo := 0) (n := ((P : Nat) : Int).toNat)) (fun z : Int => .int z) (fun c => noL_int c) (fun _ z => True) hD1 hd6 (by omega) (fun _ _ => trivial) ?_ ?_
    · rintro i3 x3 Ha3 Hb3 Kk3 n3' hi3 sa3 hda3 ⟨rfl, ex3⟩ kk3
      refine ⟨rfl, _, rfl, d, sa, ms, 30, n3', rfl, hda3, by decide, by decide, fun z H6 n6 z0 z1 s6 hd6 => ?_⟩
      exact kk3 _ _ n6 z s6 hd6 (.int z) trivial
    · intro H' ys cs n' s6 hd6 hD6 hl hA hp
      have hys := DpAll.of_ints (dpAll_of_all hA)
      subst hys
      rw [List.length_map] at hl
      exact hG _ _ ⟨D1, cs, j, rfl, SqL.of hD6, by rw [hP]; omega, hj, da_trans s7 s6⟩
  rintro _ H6 ⟨th, tl, j, rfl, hth, htl, hj, s6⟩
  refine gn_st (σ' := [some (.ref a), some (.ref d), some (.ref na), some v, some (.ref wa), some (.str (ordS up)), some (.ref th), none, none, none, none, none, none, none, none, none, none, none, none]) rfl ?_
  exact k _ v na wa th L xs ws up tl j H6 ⟨s6.seq (sqL_off hna5 hnd), offL hd5 hL5 s6, ok, s6.seq (sqL_off hwa5 hwd), (dpAll_off (dl hd5) (noLs_map noL_w) hws5).mono s6, wok, w0, w2, hth, htl, hj⟩
end
end K6
set_option Elab.async false
set_option linter.all false
set_option maxRecDepth 100000
set_option maxHeartbeats 4000000
namespace K6
open PySem PySem.Spec PyProof.Rows L2
/-! ### a loom of at most one step is whole -/
theorem inside_short {st : List Stp} (h : st.length ≤ 1) : Inside st := by
  match st, h with
  | [], _ => intro b hb; simp [rels] at hb
  | [s], _ =>
    intro b hb
    cases s with
    | cmp x up => simp [rels, same] at hb ⊢; exact hb
    | swap => simp [rels] at hb
    | flip sd => cases sd <;> simp [rels] at hb
theorem not_insideL {L : Looms} (h : ¬ InsideL L) : ∃ i, i < L.length ∧ 1 < (L.at i).steps.length := by
  refine Classical.byContradiction fun g => h fun i hi => inside_short ?_
  by_cases q : (L.at i).steps.length ≤ 1
  · exact q
  · exact absurd ⟨i, hi, by omega⟩ g
abbrev aCall3 (sp : Sp) (t u r : TE) : TE := tCall sp [] E0 (tCons t (tCons u (tCons r tNil)))
abbrev rLenS (K : PySem.W.Frag) : List V → Hp → VK → Prop := fun xs H Q => ∃ p ys, xs = [.ref p] ∧ (SqL K H p ys ∨ SqT K H p ys) ∧ Q (.int ↑ys.length) H
section
variable {K : PySem.W.Frag} {Da : Ads}
/-! ### the two ways of doing -/
theorem law_same {D : Ends} {H : Hp} {σ : L2.St} {tr : TS} {v : V} {na wa th : Addr} {L : Looms} {xs : List V} {ws : List (List Int)} {tl : List Int} {j : Nat} (F : LwF K H v na wa th L xs ws tl j) (h3 : σ[3]? = some (some v)) (h6 : σ[6]? = some (some (.ref th)))
    (k : ∀ H', Same H H' → tr D σ H') :
    tSeq (tIfS (tTest (tOp (rNeD K) (aCall3 (spLoomed K) (tVar 3) (tC (.str "a")) (tVar 6)) (aCall3 (spDoneA K) (tVar 3) (tC (.str "a")) (tVar 6)))) (tRet (tC (.bl false))) tNext) tr D σ H := by
  refine ⟨_, h3, _, h6, v, L, 0, th, tl, j, rfl, F.looms, F.ok, F.ok.pos, F.things, F.tlen, by have := F.k3; omega, fun H1 p s1 hp => ?_⟩
  have F1 := F.mono s1
  refine ⟨_, h3, _, h6, j, by have := F.k3; omega, v, L, 0, th, tl, rfl, F1.looms, F.ok, F.ok.pos, F1.things, F.tlen, by have := F.k3; omega, fun H2 q s2 hq => ?_⟩
  refine ⟨.list ((doneN L j 0 tl).map .int), .list ((doneN L j 0 tl).map .int), dp_ints (s2.seq hp), dp_ints hq, shaped_ints _, shaped_ints _, ?_⟩
  rw [eqv_list eqv_int, decide_eq_true rfl]
  exact ⟨false, rfl, iteF (k H2 (s1.trans s2))⟩
/-! ### the try -/
abbrev tSuite (K : PySem.W.Frag) (Da : Ads) (a : Addr) (cls : Value) (d : Option Addr) : TS := tRet (tAndV (tOp rEq (tXf a cls d Da.outside "why" (tVar 7)) (tC (.str "orders")))
  (tCB (rAny K) (tCons (tLc (iList K (tVar 2)) (gName 17) tYes (tOp (rI0 fun i j => .bl (decide (j < i))) (tCB (rLenS K) (tCons (tOp (rIxT K) (tDGet (tVar 3) (tVar 17)) (tC (.int 0))) tNil)) (tC (.int 1))) [17]) tNil)))
def Kp (K : PySem.W.Frag) (Da : Ads) (H : Hp) (L : Looms) (S : List Node) (x : V) : Prop := ∃ a dx p nxs F, x = .ref a ∧ H a = some (.ins Da.kept dx (putF "nodes" (.ref p) [])) ∧ H p = some (.lst nxs) ∧ AllR (NodeR K) H nxs F ∧ (∀ n ∈ S, n ∈ F) ∧ Closed L F ∧ (∀ n ∈ F, Good n ∧ NodeOk L n) ∧ F.length ≤ 186
def Bk (Da : Ads) (H : Hp) (L : Looms) (S : List Node) (x : V) : Prop := ∃ a dx p row j, x = .ref a ∧ H a = some (.ins Da.broken dx (putF "row" (.ref p) [])) ∧ H p = some (.lst (row.map V.int)) ∧ j ≤ 21 ∧ (∃ n ∈ S, BadRow L j n row) ∧ ∀ i, i < j → ∀ n ∈ S, ¬ Fails L i n
theorem law_try {D : Ends} {H : Hp} {tr : TS} {s0 s1 v : V} {na wa th : Addr} {L : Looms} {xs : List V} {ws : List (List Int)} {tl : List Int} {j : Nat} {up : Bool} (F : LwF K H v na wa th L xs ws tl j) (hx : PySem.W.exmOne K (.ref Da.outside) (.ref Da.outside) = some true)
    (hret : ∀ H', D.rt (.bl true) H')
    (k : ∀ x H', Same H H' → InsideL L → Kp K Da H' L (stN 0 up ws) x ∨ Bk Da H' L (stN 0 up ws) x → tr D [some s0, some s1, some (.ref na), some v, some (.ref wa), some (.str (ordS up)), some (.ref th), none, none, none, none, some x, none, none, none, none, none, none, none] H') :
    tSeq (fun D_1 σ H => tAsg (tCallS (spJudge K Da) (WE (wAs K (.ref Da.outside) 7 (fun a cls d => tSuite K Da a cls d) (fun _ _ _ _ => False) D_1)) (tCons (tVar 3) (tCons (tC (.str "a")) (tCons (tVar 4) (tCons (tVar 5) tNil))))) (gName 11) D_1 σ H) tr D
      [some s0, some s1, some (.ref na), some v, some (.ref wa), some (.str (ordS up)), some (.ref th), none, none, none, none, none, none, none, none, none, none, none, none] H := by
  have zl : sizeLine = 16777216 := sizeLine_eq
  refine ⟨_, rfl, _, rfl, _, rfl, v, L, 0, wa, xs, ws, up, rfl, F.looms, F.ok, F.ok.pos, .inl F.words, F.wd, F.wok, by have := F.w2; omega, fun hN => ?_, fun hI H' a dx p nxs Fs s2 h1 h2 h3 h4 h5 h6 h7 h8 => ?_, fun hI H' a dx p row i s2 h1 h2 h3 h4 h5 => ?_⟩
  · intro H1 d sa hd e
    refine ⟨true, hx, fun _ b hb => ?_, fun z => nomatch z⟩
    refine ⟨_, rfl, rfl, rfl, d, _, _, rfl, e, rfl, rfl, true, rfl, iteT ?_⟩
    have F1 := F.mono sa
    refine ⟨_, rfl, na, rfl, ⟨_, F1.names⟩, fun D1 hD1 => ?_⟩
    refine lc_map (walk_list (K := K) (a := na) (xs := (List.range L.length).map fun i => V.str (nmS i))) (fun i y _ => y = .bl (decide (1 < (L.at i).steps.length))) hD1 (by simp; have := F.ok.three; omega) (fun _ _ _ _ _ h => h) (fun H' s2 => (F1.mono s2).names) ?_ ?_
    · rintro i x Ha Hb Kk hi s2 ⟨rfl, ex⟩ kk
      have hi' : i < L.length := by simpa using hi
      have hx : x = .str (nmS i) := by
        rw [List.getElem?_map, List.getElem?_range hi'] at ex
        exact (Option.some.inj ex).symm
      subst hx
      obtain ⟨la, lv, rfl, hg, hlv⟩ := looms_get (F1.mono s2).looms F.ok.three hi'
      obtain ⟨ll, v0, v1, v2, rfl, hll, k0, k1, k2⟩ := loom_get hlv
      refine ⟨rfl, _, rfl, _, rfl, la, _, rfl, hg, ll, _, _, v0, rfl, rfl, hll, at_of (j := 0) rfl rfl, ?_⟩
      obtain ⟨sp, sxs, rfl, hsp, hsx⟩ := k0.tuple
      refine ⟨sp, sxs, rfl, .inr hsp, _, _, rfl, rfl, ?_⟩
      refine kk _ _ (Same.refl _) ?_
      have e1 : sxs.length = (L.at i).steps.length := by rw [hsx.length]; simp
      rw [← e1]
      exact congrArg V.bl (decide_eq_decide.mpr (by omega))
    · intro H' ys s2 e1 l1 r1
      obtain ⟨i, hi, hgt⟩ := not_insideL hN
      have hl : ys.length = L.length := by simpa using l1
      have hys : ys = ((List.range L.length).map fun i => decide (1 < (L.at i).steps.length)).map V.bl := by
        refine List.ext_getElem (by simp [hl]) fun m a1 a2 => ?_
        simp only [List.getElem_map, List.getElem_range]
        exact r1 m _ (by simp [a1])
      refine ⟨D1, _, rfl, hys ▸ SqL.of e1, ?_⟩
      have : (((List.range L.length).map fun i => decide (1 < (L.at i).steps.length)).any id) = true := by
        rw [List.any_eq_true]
        exact ⟨true, List.mem_map.mpr ⟨i, List.mem_range.mpr hi, decide_eq_true hgt⟩, rfl⟩
      rw [this]
      exact hret _
  · exact gn_st rfl (k _ H' s2 hI (.inl ⟨a, dx, p, nxs, Fs, rfl, h1, h2, h3, h4, h5, fun n hn => (h6 n hn).2, h8⟩))
  · exact gn_st rfl (k _ H' s2 hI (.inr ⟨a, dx, p, row, i, rfl, h1, h2, h3, h4, h5⟩))
end
end K6
set_option Elab.async false
set_option linter.all false
set_option maxRecDepth 100000
set_option maxHeartbeats 4000000
namespace K6
open PySem PySem.Spec PyProof.Rows L2
/-! ### sorted, both ways -/
abbrev tSrt (K : PySem.W.Frag) (i : Nat) : TE := tIf (tTest (tOp rEq (tVar 5) (tC (.str "up")))) (tCB (rSortedI K) (tCons (tVar i) tNil)) (tRevL K (tCB (rSortedI K) (tCons (tVar i) tNil)))
section
variable {K : PySem.W.Frag} {Da : Ads}
theorem srt_te {σ : L2.St} {H : Hp} {Q : VK} {i : Nat} {up : Bool} {pr : Addr} {row : List Int} (h5 : σ[5]? = some (some (.str (ordS up)))) (hi : σ[i]? = some (some (.ref pr))) (hr : SqL K H pr (row.map V.int))
    (k : ∀ H' p l, Same H H' → l.Perm row → (∀ r : List Int, r.Perm row → (r = l ↔ srt up r)) → SqL K H' p (l.map V.int) → Q (.ref p) H') : tSrt K i σ H Q := by
  cases up with
  | true =>
    refine ⟨_, h5, rfl, true, by decide +kernel, iteT ?_⟩
    refine ⟨_, hi, pr, row, rfl, hr, fun l p hperm hpw hp => ?_⟩
    exact k _ p l (same_new hp) hperm (fun r hr => srt_sorted true (hperm.trans hr.symm) hpw) (SqL.of upd_same)
  | false =>
    refine ⟨_, h5, rfl, false, by decide +kernel, iteF ?_⟩
    refine ⟨_, hi, pr, row, rfl, hr, fun l p hperm hpw hp => ?_⟩
    refine ⟨p, _, rfl, SqL.of upd_same, fun t ht => ?_⟩
    have ee : (l.map V.int).reverse = l.reverse.map V.int := by rw [List.map_reverse]
    rw [ee]
    exact k _ t l.reverse ((same_new hp).trans (same_new ht)) (l.reverse_perm.trans hperm) (fun r hr => srt_sorted false (hperm.trans hr.symm) hpw) (SqL.of upd_same)
/-! ### the least bad row -/
/-- a bad row of the pieces of wd -/
def Bad (L : Looms) (up : Bool) (i : Nat) (wd row : List Int) : Prop := SpR wd (2 ^ i) row ∧ ¬ srt up (doneN L i 0 row)
theorem SpR.len {wd : List Int} {m : Nat} {row : List Int} (h : SpR wd m row) : row.length = m := by
  obtain ⟨sz, rfl, h1, h2, h3⟩ := h
  rw [expand_length _ _ h1.symm, h3]
theorem bad_row {L : Looms} {up : Bool} {i : Nat} {wd row : List Int} : Bad L up i wd row ↔ BadRow L i ⟨0, up, wd⟩ row := by
  constructor
  · rintro ⟨⟨sz, rfl, h1, h2, h3⟩, h4⟩
    exact ⟨sz, rfl, h1, h2, by rw [expand_length _ _ h1.symm, h3], h4⟩
  · rintro ⟨sz, rfl, h1, h2, h3, h4⟩
    exact ⟨⟨sz, rfl, h1, h2, by rw [expand_length _ _ h1.symm] at h3; exact h3⟩, h4⟩
def LsOk (L : Looms) (up : Bool) (ws : List (List Int)) (P : Nat → List Int → List Int → Prop) (H : Hp) (ls : V) : Prop :=
  (ls = .non ∧ ∀ i wd row, P i wd row → ¬ Bad L up i wd row) ∨
  (∃ p row i, ls = .ref p ∧ H p = some (.lst (row.map V.int)) ∧ (∃ wd ∈ ws, Bad L up i wd row) ∧ ∀ i', i' < i → ∀ wd ∈ ws, ∀ r, ¬ Bad L up i' wd r)
theorem LsOk.mono {L : Looms} {up : Bool} {ws : List (List Int)} {P P' : Nat → List Int → List Int → Prop} {H H' : Hp} {ls : V} (s : Same H H') (hp : ∀ i wd row, P' i wd row → Bad L up i wd row → P i wd row) (h : LsOk L up ws P H ls) : LsOk L up ws P' H' ls := by
  rcases h with ⟨e, h⟩ | ⟨p, row, i, e, h1, h2, h3⟩
  · exact .inl ⟨e, fun i wd row q b => h i wd row (hp i wd row q b) b⟩
  · exact .inr ⟨p, row, i, e, s _ _ h1, h2, h3⟩
abbrev tInner (K : PySem.W.Frag) : TS := tSeq (tAsg (aCall3 (spDoneA K) (tVar 3) (tC (.str "a")) (tVar 14)) (gName 10))
  (tIfS (tAnd (tTest (tOp (rNeD K) (tVar 10) (tSrt K 14))) (tB (tIsN (tVar 8)))) (tAsg (tVar 14) (gName 8)) tNext)
abbrev tLoops (K : PySem.W.Frag) : TS := tFor (iTup K (tTup (tCons (tC (.int 1)) (tCons (tC (.int 2)) (tCons (tC (.int 4)) (tCons (tC (.int 8)) (tCons (tC (.int 16)) tNil))))))) (gName 9)
  (tFor (iList K (tVar 4)) (gName 12) (tFor (iList K (aCall2 (spSpreadA K) (tVar 12) (tVar 9))) (gName 14) (tInner K)))
/-- the names while the rows are tried -/
def StE (s0 s1 v : V) (na wa th : Addr) (up : Bool) (x ls : V) (σ : L2.St) : Prop := ∃ z9 z10 z12 z14, σ = [some s0, some s1, some (.ref na), some v, some (.ref wa), some (.str (ordS up)), some (.ref th), none, some ls, z9, z10, some x, z12, none, z14, none, none, none, none]
theorem law_loops {D : Ends} {H : Hp} {tr : TS} {s0 s1 v x : V} {na wa th : Addr} {L : Looms} {xs : List V} {ws : List (List Int)} {tl : List Int} {j : Nat} {up : Bool} (F : LwF K H v na wa th L xs ws tl j)
    (k : ∀ ls σ H', Same H H' → StE s0 s1 v na wa th up x ls σ → LsOk L up ws (fun i wd _ => i < 5 ∧ wd ∈ ws) H' ls → tr D σ H') :
    tSeq (tLoops K) tr D [some s0, some s1, some (.ref na), some v, some (.ref wa), some (.str (ordS up)), some (.ref th), none, some .non, none, none, some x, none, none, none, none, none, none, none] H := by
  have zl : sizeLine = 16777216 := sizeLine_eq
  have dlen : ws.map wD = ws.map wD := rfl
  have xl : xs.length = ws.length := by have := F.wd.length; simpa using this
  refine if_join (fun σ H' => ∃ ls, Same H H' ∧ StE s0 s1 v na wa th up x ls σ ∧ LsOk L up ws (fun i wd _ => i < 5 ∧ wd ∈ ws) H' ls) (fun D' hD => ?_) (fun σ H' ⟨ls, s, e, l⟩ => k ls σ H' s e l)
  refine ⟨by show 5 ≤ sizeLine; omega, fun tp htp => ?_⟩
  have st := same_new (o := .tup [.int 1, .int 2, .int 4, .int 8, .int 16]) htp
  have htp2 : SqT K (upd H tp (.tup [.int 1, .int 2, .int 4, .int 8, .int 16])) tp [.int 1, .int 2, .int 4, .int 8, .int 16] := SqT.of upd_same
  refine ⟨tp, rfl, ⟨_, htp2⟩, ?_⟩
  refine for_it (walk_tup (K := K) (a := tp) (xs := [.int 1, .int 2, .int 4, .int 8, .int 16])) (fun i σ Hx => ∃ ls, Same (upd H tp (.tup [.int 1, .int 2, .int 4, .int 8, .int 16])) Hx ∧ StE s0 s1 v na wa th up x ls σ ∧ LsOk L up ws (fun i' wd _ => i' < i ∧ wd ∈ ws) Hx ls)
    ⟨.non, Same.refl _, ⟨none, none, none, none, rfl⟩, .inl ⟨rfl, fun i wd row q => absurd q.1 (Nat.not_lt_zero _)⟩⟩ (fun i σ Hx _ ⟨_, s, _⟩ => tupS s htp2) ?_ (fun σ Hx ⟨ls, s, e, l⟩ => hD σ Hx ⟨ls, st.trans s, e, l⟩)
  rintro i y σ _ Hx hi ⟨ls, sx, ⟨z9, z10, z12, z14, rfl⟩, hls⟩ ⟨rfl, ey⟩
  have hi5 : i < 5 := hi
  have hy : y = .int ((2 ^ i : Nat) : Int) := by
    have : i = 0 ∨ i = 1 ∨ i = 2 ∨ i = 3 ∨ i = 4 := by omega
    rcases this with rfl | rfl | rfl | rfl | rfl <;> exact (Option.some.inj ey).symm
  subst hy
  have h16 : 2 ^ i ≤ 16 := Nat.pow_le_pow_right (by omega) (show i ≤ 4 by omega)
  have Fx := F.mono (st.trans sx)
  refine gn_st (σ' := [some s0, some s1, some (.ref na), some v, some (.ref wa), some (.str (ordS up)), some (.ref th), none, some ls, some (.int ((2 ^ i : Nat) : Int)), z10, some x, z12, none, z14, none, none, none, none]) rfl ?_
  refine ⟨_, rfl, wa, rfl, ⟨_, Fx.words⟩, ?_⟩
  refine for_it (walk_list (K := K) (a := wa) (xs := xs)) (fun m σ Hy => ∃ ls z10 z12 z14, σ = [some s0, some s1, some (.ref na), some v, some (.ref wa), some (.str (ordS up)), some (.ref th), none, some ls, some (.int ((2 ^ i : Nat) : Int)), z10, some x, z12, none, z14, none, none, none, none] ∧ Same Hx Hy ∧
      LsOk L up ws (fun i' wd _ => (i' < i ∧ wd ∈ ws) ∨ (i' = i ∧ wd ∈ ws.take m)) Hy ls)
    ⟨ls, z10, z12, z14, rfl, Same.refl _, hls.mono (Same.refl _) fun i' wd row q _ => by
      rcases q with q | ⟨_, q⟩
      · exact q
      · simp at q⟩ (fun m σ Hy _ ⟨_, _, _, _, _, s, _⟩ => (Fx.mono s).words) ?_ ?_
  · rintro m y σ _ Hy hm ⟨ls, z10, z12, z14, rfl, sy, hls⟩ ⟨rfl, ey⟩
    have Fy := Fx.mono sy
    obtain ⟨dw, edw, hdw⟩ := Fy.wd.getV ey
    rw [List.getElem?_map] at edw
    obtain ⟨wd, ewd, rfl⟩ := Option.map_eq_some_iff.mp edw
    have hwd : wd ∈ ws := List.mem_of_getElem? ewd
    obtain ⟨hsg, hw1, hw4⟩ := F.wok wd hwd
    obtain ⟨pw, rfl, hpw⟩ := get_w hdw
    refine gn_st (σ' := [some s0, some s1, some (.ref na), some v, some (.ref wa), some (.str (ordS up)), some (.ref th), none, some ls, some (.int ((2 ^ i : Nat) : Int)), z10, some x, some (.ref pw), none, z14, none, none, none, none]) rfl ?_
    refine ⟨_, rfl, _, rfl, wd.length - 1, by omega, pw, wd, 2 ^ i, rfl, hpw, by omega, by omega, h16, fun Hz q rxs rows sz hq hA hmem hlen => ?_⟩
    have rl := hA.1
    refine ⟨q, rfl, ⟨_, SqL.of hq⟩, ?_⟩
    refine for_it (walk_list (K := K) (a := q) (xs := rxs)) (fun r σ Hw => ∃ ls z10 z14, σ = [some s0, some s1, some (.ref na), some v, some (.ref wa), some (.str (ordS up)), some (.ref th), none, some ls, some (.int ((2 ^ i : Nat) : Int)), z10, some x, some (.ref pw), none, z14, none, none, none, none] ∧ Same Hz Hw ∧
        LsOk L up ws (fun i' wd' row => ((i' < i ∧ wd' ∈ ws) ∨ (i' = i ∧ wd' ∈ ws.take m)) ∨ (i' = i ∧ wd' = wd ∧ row ∈ rows.take r)) Hw ls)
      ⟨ls, z10, z14, rfl, Same.refl _, hls.mono sz fun i' wd' row q _ => by
        rcases q with q | ⟨_, _, q⟩
        · exact q
        · simp at q⟩ (fun r σ Hw _ ⟨_, _, _, _, s, _⟩ => s.seq (SqL.of hq)) ?_ ?_
    · rintro r y σ _ Hw hr ⟨ls, z10, z14, rfl, sw, hls⟩ ⟨rfl, ey⟩
      obtain ⟨row, erow, hrow⟩ := hA.2 r y ey
      obtain ⟨pr, rfl, hpr⟩ := rowL_mono _ _ _ _ sw hrow
      have hsp := (hmem row).mp (List.mem_of_getElem? erow)
      have hrl : row.length = 2 ^ i := hsp.len
      refine gn_st (σ' := [some s0, some s1, some (.ref na), some v, some (.ref wa), some (.str (ordS up)), some (.ref th), none, some ls, some (.int ((2 ^ i : Nat) : Int)), z10, some x, some (.ref pw), none, some (.ref pr), none, none, none, none]) rfl ?_
      have Fw := (Fy.mono sz).mono sw
      refine ⟨_, rfl, _, rfl, i, by omega, v, L, 0, pr, row, rfl, Fw.looms, F.ok, F.ok.pos, SqL.of hpr, hrl, by omega, fun H1 pl e1 hpl => ?_⟩
      refine gn_st (σ' := [some s0, some s1, some (.ref na), some v, some (.ref wa), some (.str (ordS up)), some (.ref th), none, some ls, some (.int ((2 ^ i : Nat) : Int)), some (.ref pl), some x, some (.ref pw), none, some (.ref pr), none, none, none, none]) rfl ?_
      refine ⟨_, rfl, srt_te (up := up) (row := row) rfl rfl (SqL.of (e1 _ _ hpr)) fun H2 p l s2 hperm hl hp => ?_⟩
      have hiff : doneN L i 0 row = l ↔ srt up (doneN L i 0 row) := hl _ (doneN_perm hrl)
      refine ⟨.list ((doneN L i 0 row).map .int), .list (l.map .int), dp_ints (s2.seq hpl), dp_ints hp, shaped_ints _, shaped_ints _, ?_⟩
      rw [eqv_list eqv_int, decide_eq_decide.mpr hiff]
      have sw2 := (sw.trans e1).trans s2
      have step : ∀ i' wd' row', (((i' < i ∧ wd' ∈ ws) ∨ (i' = i ∧ wd' ∈ ws.take m)) ∨ (i' = i ∧ wd' = wd ∧ row' ∈ rows.take (r + 1))) → (((i' < i ∧ wd' ∈ ws) ∨ (i' = i ∧ wd' ∈ ws.take m)) ∨ (i' = i ∧ wd' = wd ∧ row' ∈ rows.take r)) ∨ (i' = i ∧ row' = row) := by
        rintro i' wd' row' (q | ⟨q1, q2, q3⟩)
        · exact .inl (.inl q)
        · rw [List.take_add_one, erow] at q3
          rcases List.mem_append.mp q3 with q3 | q3
          · exact .inl (.inr ⟨q1, q2, q3⟩)
          · exact .inr ⟨q1, by simpa using q3⟩
      by_cases hs : srt up (doneN L i 0 row)
      · rw [decide_eq_true hs]
        refine ⟨false, rfl, iteF (iteF ?_)⟩
        refine ⟨ls, _, _, rfl, sw2, hls.mono (e1.trans s2) fun i' wd' row' q b => ?_⟩
        rcases step i' wd' row' q with q | ⟨rfl, rfl⟩
        · exact q
        · exact absurd hs b.2
      · rw [decide_eq_false hs]
        refine ⟨true, rfl, iteT ⟨_, rfl, _, rfl, ?_⟩⟩
        have hb : Bad L up i wd row := ⟨hsp, hs⟩
        rcases hls with ⟨rfl, hnb⟩ | ⟨p0, row0, i0, rfl, g1, g2, g3⟩
        · rw [decide_eq_true rfl]
          refine iteT ⟨_, rfl, gn_st (σ' := [some s0, some s1, some (.ref na), some v, some (.ref wa), some (.str (ordS up)), some (.ref th), none, some (.ref pr), some (.int ((2 ^ i : Nat) : Int)), some (.ref pl), some x, some (.ref pw), none, some (.ref pr), none, none, none, none]) rfl ?_⟩
          refine ⟨.ref pr, _, _, rfl, sw2, .inr ⟨pr, row, i, rfl, s2 _ _ (e1 _ _ hpr), ⟨wd, hwd, hb⟩, fun i' hi' wd' hw' r' b => hnb i' wd' r' (.inl (.inl ⟨hi', hw'⟩)) b⟩⟩
        · rw [decide_eq_false (fun e => nomatch e)]
          refine iteF ?_
          exact ⟨.ref p0, _, _, rfl, sw2, .inr ⟨p0, row0, i0, rfl, s2 _ _ (e1 _ _ g1), g2, g3⟩⟩
    · rintro σ Hw ⟨ls, z10, z14, rfl, sw, hls⟩
      refine ⟨ls, z10, _, z14, rfl, (sy.trans sz).trans sw, hls.mono (Same.refl _) fun i' wd' row' q b => ?_⟩
      rcases q with q | ⟨rfl, q⟩
      · exact .inl (.inl q)
      · rw [List.take_add_one, ewd] at q
        rcases List.mem_append.mp q with q | q
        · exact .inl (.inr ⟨rfl, q⟩)
        · have e : wd' = wd := by simpa using q
          subst e
          refine .inr ⟨rfl, rfl, ?_⟩
          rw [rl, List.take_length]
          exact (hmem row').mpr b.1
  · rintro σ Hy ⟨ls, z10, z12, z14, rfl, sy, hls⟩
    refine ⟨ls, sx.trans sy, ⟨_, _, _, _, rfl⟩, hls.mono (Same.refl _) fun i' wd' row' q b => ?_⟩
    rw [xl, List.take_length]
    by_cases h : i' < i
    · exact .inl ⟨h, q.2⟩
    · exact .inr ⟨by omega, q.2⟩
end
end K6
set_option Elab.async false
set_option linter.all false
set_option maxRecDepth 100000
set_option maxHeartbeats 4000000
namespace K6
open PySem PySem.Spec PyProof.Rows L2
/-- isinstance of an own instance -/
structure IsiC (K : PySem.W.Frag) (C : Addr) : Prop where
  ca : PySem.W.findIn K (.ref C) "__class__" = some (some (.builtin "object.__class__"))
  cn : PySem.W.specialIn K (.builtin "object.__class__") "__get__" = some (some (.builtin "getset_descriptor.__get__"))
  ct : PySem.W.takesIn K (.builtin "object.__class__") = some true
  cm : PySem.W.mroIn K C (.type "object") = some true
structure Txv (w : World) (K : PySem.W.Frag) (mg : Str → Option Value) (D : Ads) : Prop where
  U : Txu w K mg D
  w69 : Fn K "law" "law" sLaw (D.d 69).f (D.d 69).fd
  keptI : IsiC K D.kept
  brokenI : IsiC K D.broken
  kk : PySem.W.kitOne K (.ref D.kept) (.ref D.kept) = some true
  bk : PySem.W.kitOne K (.ref D.broken) (.ref D.kept) = some false
  oo : PySem.W.exmOne K (.ref D.outside) (.ref D.outside) = some true
abbrev rBoolA (Da : Ads) : List V → Hp → VK → Prop := fun xs H Q => ∃ x b, xs = [x] ∧ IsAns Da H x b ∧ Q (.bl b) H
abbrev tD (K : PySem.W.Frag) (Da : Ads) : TS := tIfS (tOr (tNot (tB (tCall spSays [] E0 (tCons (tMeth2 Da.kept Da.broken "shows" (spKeptShows K Da) (spBrokenShows K Da) (tVar 11) (tCons (tVar 3) (tCons (tC (.str "a")) (tCons (tCB (rTupOf K) (tCons (tVar 4) tNil)) (tCons (tVar 5) tNil))))) (tCons (tC (.bl true)) tNil)))))
  (tTest (tOp rNe (tCB (rBoolA Da) (tCons (tVar 11) tNil)) (tCB (rIsi K) (tCons (tVar 11) (tCons (tC (.ref Da.kept)) tNil)))))) (tRet (tC (.bl false))) tNext
abbrev tG (K : PySem.W.Frag) (Da : Ads) : TS := tIfS (tOr (tAnd (tB (tNotN (tVar 8))) (tOr (tTruth Da (tVar 11)) (tTest (tOp rNe (tCB (rLenS K) (tCons (tFld K (tVar 11) "row") tNil)) (tCB (rLenS K) (tCons (tVar 8) tNil))))))
  (tAnd (tB (tIsN (tVar 8))) (tAnd (tNot (tTruth Da (tVar 11))) (tTest (tOp (rI0 fun i j => .bl (decide (i < j))) (tCB (rLenS K) (tCons (tFld K (tVar 11) "row") tNil)) (tC (.int 32))))))) (tRet (tC (.bl false))) tNext
abbrev tShows (C : Addr) (sp : Sp) (t : TE) : TE := tCall spSays [] E0 (tCons (tMeth C "shows" sp [] E0 t (tCons (tVar 3) (tCons (tC (.str "a")) (tCons (tVar 4) (tCons (tVar 5) tNil))))) (tCons (tC (.bl false)) tNil))
abbrev tKeptEnd (K : PySem.W.Frag) (Da : Ads) : TS := tIfS (tTruth Da (tVar 11)) (tSeq (tAsg (tLc (iList K (tFld K (tVar 11) "nodes")) (gName 18) (tTest (tOp (rNeD K) (tVar 18) (tTup (tCons (tC (.str "a")) (tCons (tVar 5) (tCons (tOp (rIxL K) (tVar 4) (tC (.int 0))) tNil)))))) (tVar 18) [18]) (gName 13))
  (tRet (tShows Da.kept (spKeptShows K Da) (tMake Da.kept (spKeptInit K Da) [] E0 (tCons (tVar 13) tNil))))) tNext
abbrev tBrokenEnd (K : PySem.W.Frag) (Da : Ads) : TS := tSeq (tAsg (aCall3 (spDoneA K) (tVar 3) (tC (.str "a")) (tFld K (tVar 11) "row")) (gName 10))
  (tSeq (tIfS (tTest (tOp (rEqD K) (tVar 10) (tSrt K 10))) (tRet (tC (.bl false))) tNext)
  (tRet (tAndV (tShows Da.broken (spBrokenShows K Da) (tMake Da.broken (spBrokenInit K Da) [] E0 (tCons (tOp rCat (tFld K (tVar 11) "row") (tFld K (tVar 11) "row")) tNil)))
    (tShows Da.kept (spKeptShows K Da) (tMake Da.kept (spKeptInit K Da) [] E0 (tCons (tLst tNil) tNil))))))
abbrev tTail (K : PySem.W.Frag) (Da : Ads) : TS := tSeq (tD K Da) (tSeq (tAsg (tC .non) (gName 8)) (tSeq (tLoops K) (tSeq (tG K Da) (tSeq (tKeptEnd K Da) (tBrokenEnd K Da)))))
section
variable {w : World} {K : PySem.W.Frag} {mg : Str → Option Value} {Da : Ads}
theorem made {H : Hp} {C x dx : Addr} (hx0 : H x = none) (hdx : H dx = none) (hne : dx ≠ x) : Same H (upd (upd H dx (.own x)) x (.ins C dx [])) := (same_new hdx).trans (same_new (by rw [upd_ne (Ne.symm hne)]; exact hx0))
theorem made_ne {H : Hp} {p x : Addr} {o : HO} (h : (upd H x o) p = none) : p ≠ x := fun e => by rw [e, upd_same] at h; cases h
theorem fails_bad {L : Looms} {up : Bool} {ws : List (List Int)} (hI : InsideL L) (hW : WordsOk ws) {i : Nat} {wd row : List Int} (hw : wd ∈ ws) (b : Bad L up i wd row) : Fails L i ⟨0, up, wd⟩ := (bad_row.mp b).fails hI.all (hW wd hw).1
theorem law_kept (V : Txv w K mg Da) {D : Ends} {H : Hp} {s0 s1 v x : L2.V} {na wa th : Addr} {L : Looms} {xs : List L2.V} {ws : List (List Int)} {tl : List Int} {j : Nat} {up : Bool} (F : LwF K H v na wa th L xs ws tl j) (hI : InsideL L) (hK : Kp K Da H L (stN 0 up ws) x)
    (hret : ∀ H', D.rt (.bl true) H') :
    tTail K Da D [some s0, some s1, some (.ref na), some v, some (.ref wa), some (.str (ordS up)), some (.ref th), none, none, none, none, some x, none, none, none, none, none, none, none] H := by
  have T := V.U.T
  obtain ⟨a, dx, p, nxs, Fs, rfl, ha, hp, hA, hS, hC, hG, hF⟩ := hK
  have hrows : ∀ n ∈ Fs, ∀ r, RowOf L n r → ∃ m, r.node = some m := fun n hn r hr => by
    obtain ⟨m, e, _⟩ := hC n hn r hr
    exact ⟨m, e⟩
  have zl : sizeLine = 16777216 := sizeLine_eq
  -- it shows, and is a Kept
  refine ⟨_, rfl, a, dx, _, rfl, rfl, .inl ⟨ha, _, rfl, _, rfl, wa, xs, rfl, .inl ⟨F.words, fun tp htp => ?_⟩⟩⟩
  have s1' := same_new (o := .tup xs) htp
  have F1 := F.mono s1'
  refine ⟨_, rfl, a, dx, p, tp, v, 0, up, nxs, xs, ws, L, Fs, rfl, s1' _ _ ha, SqL.of (s1' _ _ hp), hA.mono (fun _ _ _ _ s h => h.mono s) s1', F1.looms, F.ok, hI, F.ok.pos, .inr (SqT.of upd_same), F1.wd, F.wok, by have := F.w2; omega, hG, hF, hrows, fun b hb H2 s2 => ?_⟩
  have hbt : b = true := hb.mpr ⟨hS, hC⟩
  subst hbt
  have s12 := s1'.trans s2
  refine ⟨true, true, rfl, true, rfl, iteF ?_⟩
  refine ⟨_, rfl, _, true, rfl, ⟨a, dx, _, rfl, .inl ⟨rfl, s12 _ _ ha⟩⟩, ?_⟩
  refine ⟨_, rfl, _, _, _, _, true, rfl, .own _, .base (.ins (s12 _ _ ha) T.keptC V.keptI.ca V.keptI.cn V.keptI.ct V.keptI.cm), V.kk, rfl, false, rfl, iteF ?_⟩
  -- the least
  show gName 8 .non _ _ (fun σ' H' => tSeq (tLoops K) (tSeq (tG K Da) (tSeq (tKeptEnd K Da) (tBrokenEnd K Da))) D σ' H')
  refine gn_st (σ' := [some s0, some s1, some (.ref na), some v, some (.ref wa), some (.str (ordS up)), some (.ref th), none, some .non, none, none, some (.ref a), none, none, none, none, none, none, none]) rfl ?_
  refine law_loops (F.mono s12) fun ls σ H3 s3 ⟨z9, z10, z12, z14, eσ⟩ hls => ?_
  subst eσ
  rcases hls.symm with ⟨q, row, i, rfl, h1, ⟨wd, hwd, hb⟩, h3⟩ | ⟨rfl, hno⟩
  · obtain ⟨d, hd⟩ := fails_mono_rb (fails_bad hI F.wok hwd hb)
    exact absurd hd (closed_rb hC (hS _ (List.mem_map.mpr ⟨wd, hwd, rfl⟩)))
  have s13 := s12.trans s3
  have ans3 : IsAns Da H3 (.ref a) true := ⟨a, dx, _, rfl, .inl ⟨rfl, s13 _ _ ha⟩⟩
  refine ⟨_, rfl, _, rfl, iteF (iteF ⟨_, rfl, _, rfl, iteT ⟨_, rfl, true, ans3, iteF (iteF ?_)⟩⟩)⟩
  -- without the first node
  refine ⟨_, rfl, true, ans3, iteT ?_⟩
  have F3 := F.mono s13
  obtain ⟨wd0, hwd0⟩ : ∃ wd0, ws[0]? = some wd0 := ⟨ws[0]'F.w0, by simp⟩
  have hm0 : (⟨0, up, wd0⟩ : Node) ∈ stN 0 up ws := List.mem_map.mpr ⟨wd0, List.mem_of_getElem? hwd0, rfl⟩
  obtain ⟨v0, hv0, hd0⟩ := F3.wd.get (i := 0) (d := wD wd0) (by rw [List.getElem?_map, hwd0]; rfl)
  have hp3 := s13 _ _ hp
  have hA3 := hA.mono (fun _ _ _ _ s h => h.mono s) s13
  refine ⟨_, rfl, a, Da.kept, dx, _, .ref p, rfl, s13 _ _ ha, T.keptC, T.keptN, rfl, p, rfl, ⟨_, SqL.of hp3⟩, fun D1 hD1 => ?_⟩
  refine lc_it (walk_list (K := K) (a := p) (xs := nxs)) (fun i Hx => ∃ acc, Same H3 Hx ∧ Hx D1 = some (.lst acc) ∧ AllR (NodeR K) (drp [D1] Hx) acc ((Fs.take i).filter fun n => !decide (n = ⟨0, up, wd0⟩)) ∧ acc.length ≤ i)
    ⟨[], same_new hD1, upd_same, .nil, Nat.le_refl _⟩ (fun i Hx _ ⟨_, s, _⟩ => s.seq (SqL.of hp3)) ?_ ?_
  · rintro i y _ Hx hi ⟨acc, sx, hDx, hR, hl⟩ ⟨rfl, ey⟩
    obtain ⟨n, en, hn⟩ := hA3.2 i y ey
    have hnF : n ∈ Fs := List.mem_of_getElem? en
    have hl186 : nxs.length ≤ 186 := by rw [hA.1]; exact hF
    have hi' : i < nxs.length := hi
    refine ⟨rfl, _, rfl, _, rfl, _, rfl, wa, xs, 0, v0, rfl, rfl, (F3.mono sx).words, by show atI xs 0 = _; exact at_of (j := 0) rfl hv0, small3, fun q hq => ?_⟩
    have tq := same_new (o := .tup [.str "a", .str (ordS up), v0]) hq
    have sxq := sx.trans tq
    refine ⟨nodeD n, nodeD ⟨0, up, wd0⟩, hn.mono sxq, .tup (SqT.of upd_same) (.cons (.str _) (.cons (.str _) (.cons (hd0.mono sxq) .nil))), shaped_node _, shaped_node _, ?_⟩
    rw [eqv_node (hG n hnF).1.1 (show 0 < 3 by omega)]
    have hqD : q ≠ D1 := fun e => by rw [e, hDx] at hq; cases hq
    have hDq : (upd Hx q (.tup [.str "a", .str (ordS up), v0])) D1 = some (.lst acc) := by rw [upd_ne (Ne.symm hqD)]; exact hDx
    have hRq : AllR (NodeR K) (drp [D1] (upd Hx q (.tup [.str "a", .str (ordS up), v0]))) acc ((Fs.take i).filter fun n => !decide (n = ⟨0, up, wd0⟩)) := hR.mono (fun _ _ _ _ s h => h.mono s) (drp_same tq)
    refine ⟨!decide (n = ⟨0, up, wd0⟩), rfl, ?_⟩
    by_cases he : n = ⟨0, up, wd0⟩
    · rw [decide_eq_true he]
      refine iteF ⟨acc, sxq, hDq, ?_, by omega⟩
      rw [List.take_add_one, en, List.filter_append]
      simp only [Option.toList_some, List.filter_cons, List.filter_nil, he]
      simpa using hRq
    · rw [decide_eq_false he]
      refine iteT ⟨_, rfl, acc, hDq, by omega, acc ++ [y], same_upd_new sxq hD1, upd_same, ?_, by simp; omega⟩
      rw [drp_upd (by simp), List.take_add_one, en, List.filter_append]
      simp only [Option.toList_some, List.filter_cons, List.filter_nil, he, decide_false, Bool.not_false, if_true]
      exact hRq.snoc (hn.mono (same_drp sxq fun l hl => by rw [List.mem_singleton.mp hl]; exact hD1))
  · rintro Hx ⟨acc, sx, hDx, hR, hl⟩
    have el : nxs.length = Fs.length := hA.1
    rw [el, List.take_length] at hR
    refine gn_st (σ' := [some s0, some s1, some (.ref na), some v, some (.ref wa), some (.str (ordS up)), some (.ref th), none, some .non, z9, z10, some (.ref a), z12, some (.ref D1), z14, none, none, none, none]) rfl ?_
    have F4 := F3.mono sx
    have sub : ∀ n ∈ Fs.filter (fun n => !decide (n = ⟨0, up, wd0⟩)), n ∈ Fs := fun n hn => (List.mem_filter.mp hn).1
    refine ⟨_, rfl, ?_⟩
    intro a2 dx2 hx0 hdx hne
    have t1 := made (C := Da.kept) hx0 hdx hne
    refine ⟨a2, dx2, D1, acc, rfl, upd_same, t1.seq (SqL.of hDx), fun p2 hp2 => ⟨rfl, ?_⟩⟩
    have n2 := made_ne hp2
    have s4 := same_upd_new (o := .ins Da.kept dx2 (putF "nodes" (.ref p2) [])) (t1.trans (same_new (o := .lst acc) hp2)) hx0
    have h1 : (upd (upd (upd (upd Hx dx2 (.own a2)) a2 (.ins Da.kept dx2 [])) p2 (.lst acc)) a2 (.ins Da.kept dx2 (putF "nodes" (.ref p2) []))) a2 = some (.ins Da.kept dx2 (putF "nodes" (.ref p2) [])) := upd_same
    have h2 : (upd (upd (upd (upd Hx dx2 (.own a2)) a2 (.ins Da.kept dx2 [])) p2 (.lst acc)) a2 (.ins Da.kept dx2 (putF "nodes" (.ref p2) []))) p2 = some (.lst acc) := by rw [upd_ne n2]; exact upd_same
    have F5 := F4.mono s4
    refine ⟨a2, dx2, _, rfl, h1, rfl, _, rfl, _, rfl, _, rfl, a2, dx2, p2, wa, v, 0, up, acc, xs, ws, L, _, rfl, h1, SqL.of h2, (hR.mono (fun _ _ _ _ s h => h.mono s) drp_le).mono (fun _ _ _ _ s h => h.mono s) s4, F5.looms, F.ok, hI, F.ok.pos, .inl F5.words, F5.wd, F.wok, by have := F.w2; omega,
      fun n hn => hG n (sub n hn), Nat.le_trans (List.length_filter_le _ _) hF, fun n hn => hrows n (sub n hn), fun b hb H6 s6 => ?_⟩
    have hbf : b = false := by
      cases b with
      | false => rfl
      | true =>
        have := (hb.mp rfl).1 _ hm0
        simp at this
    subst hbf
    exact ⟨false, false, rfl, hret _⟩
end
end K6
set_option Elab.async false
set_option linter.all false
set_option maxRecDepth 100000
set_option maxHeartbeats 4000000
namespace K6
open PySem PySem.Spec PyProof.Rows L2
section
variable {w : World} {K : PySem.W.Frag} {mg : Str → Option Value} {Da : Ads}
theorem law_broken (TV : Txv w K mg Da) {D : Ends} {H : Hp} {s0 s1 v x : V} {na wa th : Addr} {L : Looms} {xs : List V} {ws : List (List Int)} {tl : List Int} {j : Nat} {up : Bool} (F : LwF K H v na wa th L xs ws tl j) (hI : InsideL L) (hB : Bk Da H L (stN 0 up ws) x)
    (hret : ∀ H', D.rt (.bl true) H') :
    tTail K Da D [some s0, some s1, some (.ref na), some v, some (.ref wa), some (.str (ordS up)), some (.ref th), none, none, none, none, some x, none, none, none, none, none, none, none] H := by
  have T := TV.U.T
  obtain ⟨a, dx, p, row, j, rfl, ha, hp, j21, ⟨n0, hn0, hbr⟩, hmin⟩ := hB
  have zl : sizeLine = 16777216 := sizeLine_eq
  obtain ⟨wd0, hwd0, rfl⟩ := List.mem_map.mp hn0
  have hL : Least L (stN 0 up ws) j := ⟨j21, ⟨_, hn0, row, hbr⟩, hmin⟩
  have hsg : Sign row := hbr.sign (F.wok wd0 hwd0).1
  have hb0 : Bad L up j wd0 row := bad_row.mpr hbr
  have hrl : row.length = 2 ^ j := hb0.1.len
  have hj2 : 2 ^ j ≤ 2097152 := Nat.pow_le_pow_right (n := 2) (by omega) j21
  have hj0 : 0 < 2 ^ j := Nat.two_pow_pos j
  -- it shows, and is no Kept
  refine ⟨_, rfl, a, dx, _, rfl, rfl, .inr ⟨ha, _, rfl, _, rfl, wa, xs, rfl, .inl ⟨F.words, fun tp htp => ?_⟩⟩⟩
  have s1' := same_new (o := .tup xs) htp
  have F1 := F.mono s1'
  refine ⟨_, rfl, a, dx, p, tp, v, 0, up, row, xs, ws, L, j, rfl, s1' _ _ ha, SqL.of (s1' _ _ hp), hsg, by omega, F1.looms, F.ok, hI, F.ok.pos, .inr (SqT.of upd_same), F1.wd, F.wok, by have := F.w2; omega, hL, .inr ⟨⟨_, hn0, hbr⟩, fun H2 s2 => ?_⟩⟩
  have s12 := s1'.trans s2
  refine ⟨true, true, rfl, true, rfl, iteF ?_⟩
  refine ⟨_, rfl, _, false, rfl, ⟨a, dx, _, rfl, .inr ⟨rfl, s12 _ _ ha⟩⟩, ?_⟩
  refine ⟨_, rfl, _, _, _, _, false, rfl, .own _, .base (.ins (s12 _ _ ha) T.brokenC TV.brokenI.ca TV.brokenI.cn TV.brokenI.ct TV.brokenI.cm), TV.bk, rfl, false, rfl, iteF ?_⟩
  -- the least
  show gName 8 .non _ _ (fun σ' H' => tSeq (tLoops K) (tSeq (tG K Da) (tSeq (tKeptEnd K Da) (tBrokenEnd K Da))) D σ' H')
  refine gn_st (σ' := [some s0, some s1, some (.ref na), some v, some (.ref wa), some (.str (ordS up)), some (.ref th), none, some .non, none, none, some (.ref a), none, none, none, none, none, none, none]) rfl ?_
  refine law_loops (F.mono s12) fun ls σ H3 s3 ⟨z9, z10, z12, z14, eσ⟩ hls => ?_
  subst eσ
  have s13 := s12.trans s3
  have ans3 : IsAns Da H3 (.ref a) false := ⟨a, dx, _, rfl, .inr ⟨rfl, s13 _ _ ha⟩⟩
  have hp3 := s13 _ _ hp
  have F3 := F.mono s13
  refine if_join (fun σ H' => σ = [some s0, some s1, some (.ref na), some v, some (.ref wa), some (.str (ordS up)), some (.ref th), none, some ls, z9, z10, some (.ref a), z12, none, z14, none, none, none, none] ∧ H' = H3) (fun D' hD => ?_) ?_
  · rcases hls with ⟨rfl, hno⟩ | ⟨q, r0, i, rfl, h1, ⟨wd, hwd, hb⟩, h3⟩
    · -- no bad row up to 16
      have h5 : 5 ≤ j := by
        refine Classical.byContradiction fun h => hno j wd0 row ⟨by omega, hwd0⟩ hb0
      have h32 : 32 ≤ row.length := by rw [hrl]; exact Nat.pow_le_pow_right (n := 2) (by omega) h5
      refine ⟨_, rfl, _, rfl, iteF (iteF ⟨_, rfl, _, rfl, iteT ⟨_, rfl, false, ans3, iteT ?_⟩⟩)⟩
      refine ⟨_, rfl, a, Da.broken, dx, _, .ref p, rfl, s13 _ _ ha, T.brokenC, T.brokenN, rfl, p, _, rfl, .inl (SqL.of hp3), _, _, rfl, rfl, false, ?_, iteF (hD _ _ ⟨rfl, rfl⟩)⟩
      exact congrArg V.bl (decide_eq_false (p := (((row.map V.int).length : Nat) : Int) < 32) (by rw [List.length_map]; omega))
    · -- the least bad row has the same size
      have hij : i = j := by
        have f1 := fails_bad hI F.wok hwd hb
        have m1 : (⟨0, up, wd⟩ : Node) ∈ stN 0 up ws := List.mem_map.mpr ⟨wd, hwd, rfl⟩
        by_cases c : i < j
        · exact absurd f1 (hmin i c _ m1)
        · by_cases d : j < i
          · exact absurd hb0 (h3 j d wd0 hwd0 row)
          · omega
      subst hij
      have hr0 : r0.length = 2 ^ i := hb.1.len
      refine ⟨_, rfl, _, rfl, iteT ⟨_, rfl, false, ans3, iteF ?_⟩⟩
      refine ⟨_, rfl, a, Da.broken, dx, _, .ref p, rfl, s13 _ _ ha, T.brokenC, T.brokenN, rfl, p, _, rfl, .inl (SqL.of hp3), _, rfl, q, _, rfl, .inl (SqL.of h1), rfl, false, ?_, iteF ⟨_, rfl, _, rfl, iteF (iteF (hD _ _ ⟨rfl, rfl⟩))⟩⟩
      refine congrArg V.bl ?_
      rw [decide_eq_true (by rw [List.length_map, List.length_map, hrl, hr0])]
      rfl
  · rintro σ Hx ⟨rfl, rfl⟩
    refine ⟨_, rfl, false, ans3, iteF ?_⟩
    -- what the loom makes of it is not sorted
    refine ⟨_, rfl, _, rfl, a, Da.broken, dx, _, .ref p, rfl, s13 _ _ ha, T.brokenC, T.brokenN, rfl, j, j21, v, L, 0, p, row, rfl, F3.looms, F.ok, F.ok.pos, SqL.of hp3, hrl, j21, fun H4 pl s4 hpl => ?_⟩
    refine gn_st (σ' := [some s0, some s1, some (.ref na), some v, some (.ref wa), some (.str (ordS up)), some (.ref th), none, some ls, z9, some (.ref pl), some (.ref a), z12, none, z14, none, none, none, none]) rfl ?_
    refine ⟨_, rfl, srt_te (up := up) (row := doneN L j 0 row) rfl rfl hpl fun H5 q l s5 hperm hl hq => ?_⟩
    refine ⟨.list ((doneN L j 0 row).map .int), .list (l.map .int), dp_ints (s5.seq hpl), dp_ints hq, shaped_ints _, shaped_ints _, ?_⟩
    rw [eqv_list eqv_int, decide_eq_decide.mpr (hl _ (List.Perm.refl _)), decide_eq_false hb0.2]
    refine ⟨false, rfl, iteF ?_⟩
    have s15 := (s13.trans s4).trans s5
    have F5 := F.mono s15
    have hp5 := s15 _ _ hp
    -- twice the row
    refine ⟨_, rfl, a, Da.broken, dx, _, .ref p, rfl, s15 _ _ ha, T.brokenC, T.brokenN, rfl, _, rfl, a, Da.broken, dx, _, .ref p, rfl, s15 _ _ ha, T.brokenC, T.brokenN, rfl, p, p, _, _, rfl, rfl, hp5, hp5, by rw [List.length_map]; omega, fun q2 hq2 => ?_⟩
    have e2 : row.map V.int ++ row.map V.int = (row ++ row).map V.int := by simp
    rw [e2]
    have t0 := same_new (o := .lst ((row ++ row).map V.int)) hq2
    have hq3 : (upd H5 q2 (.lst ((row ++ row).map V.int))) q2 = some (.lst ((row ++ row).map V.int)) := upd_same
    generalize upd H5 q2 (.lst ((row ++ row).map V.int)) = H6 at t0 hq3 ⊢
    intro a2 dx2 hx0 hdx hne
    have t1 := made (C := Da.broken) hx0 hdx hne
    refine ⟨a2, dx2, q2, _, rfl, upd_same, t1.seq (SqL.of hq3), fun p2 hp2 => ⟨rfl, ?_⟩⟩
    have n2 := made_ne hp2
    have s4' := same_upd_new (o := .ins Da.broken dx2 (putF "row" (.ref p2) [])) (t1.trans (same_new (o := .lst ((row ++ row).map V.int)) hp2)) hx0
    have h1 : (upd (upd (upd (upd H6 dx2 (.own a2)) a2 (.ins Da.broken dx2 [])) p2 (.lst ((row ++ row).map V.int))) a2 (.ins Da.broken dx2 (putF "row" (.ref p2) []))) a2 = some (.ins Da.broken dx2 (putF "row" (.ref p2) [])) := upd_same
    have h2 : (upd (upd (upd (upd H6 dx2 (.own a2)) a2 (.ins Da.broken dx2 [])) p2 (.lst ((row ++ row).map V.int))) a2 (.ins Da.broken dx2 (putF "row" (.ref p2) []))) p2 = some (.lst ((row ++ row).map V.int)) := by rw [upd_ne n2]; exact upd_same
    generalize upd (upd (upd (upd H6 dx2 (.own a2)) a2 (.ins Da.broken dx2 [])) p2 (.lst ((row ++ row).map V.int))) a2 (.ins Da.broken dx2 (putF "row" (.ref p2) [])) = H7 at s4' h1 h2 ⊢
    have F7 := (F5.mono t0).mono s4'
    refine ⟨a2, dx2, _, rfl, h1, rfl, _, rfl, _, rfl, _, rfl, a2, dx2, p2, wa, v, 0, up, row ++ row, xs, ws, L, j, rfl, h1, SqL.of h2, fun z hz => ?_, by rw [List.length_append]; omega, F7.looms, F.ok, hI, F.ok.pos, .inl F7.words, F7.wd, F.wok, by have := F.w2; omega, hL, .inl ⟨by rw [List.length_append]; omega, fun H8 s8 => ?_⟩⟩
    · rcases List.mem_append.mp hz with hz | hz
      · exact hsg z hz
      · exact hsg z hz
    refine ⟨false, false, rfl, true, rfl, iteT ?_⟩
    -- no nodes
    have F8 := F7.mono s8
    refine ⟨Nat.zero_le _, fun q4 hq4 => ?_⟩
    have t4 := same_new (o := .lst []) hq4
    have hq5 : (upd H8 q4 (.lst [])) q4 = some (.lst []) := upd_same
    generalize upd H8 q4 (.lst []) = H9 at t4 hq5 ⊢
    intro a3 dx3 hx3 hdx3 hne3
    have t5 := made (C := Da.kept) hx3 hdx3 hne3
    refine ⟨a3, dx3, q4, _, rfl, upd_same, t5.seq (SqL.of hq5), fun p3 hp3 => ⟨rfl, ?_⟩⟩
    have n3 := made_ne hp3
    have s9 := same_upd_new (o := .ins Da.kept dx3 (putF "nodes" (.ref p3) [])) (t5.trans (same_new (o := .lst []) hp3)) hx3
    have g1 : (upd (upd (upd (upd H9 dx3 (.own a3)) a3 (.ins Da.kept dx3 [])) p3 (.lst [])) a3 (.ins Da.kept dx3 (putF "nodes" (.ref p3) []))) a3 = some (.ins Da.kept dx3 (putF "nodes" (.ref p3) [])) := upd_same
    have g2 : (upd (upd (upd (upd H9 dx3 (.own a3)) a3 (.ins Da.kept dx3 [])) p3 (.lst [])) a3 (.ins Da.kept dx3 (putF "nodes" (.ref p3) []))) p3 = some (.lst []) := by rw [upd_ne n3]; exact upd_same
    generalize upd (upd (upd (upd H9 dx3 (.own a3)) a3 (.ins Da.kept dx3 [])) p3 (.lst [])) a3 (.ins Da.kept dx3 (putF "nodes" (.ref p3) [])) = H10 at s9 g1 g2 ⊢
    have F10 := (F8.mono t4).mono s9
    refine ⟨a3, dx3, _, rfl, g1, rfl, _, rfl, _, rfl, _, rfl, a3, dx3, p3, wa, v, 0, up, [], xs, ws, L, [], rfl, g1, SqL.of g2, .nil, F10.looms, F.ok, hI, F.ok.pos, .inl F10.words, F10.wd, F.wok, by have := F.w2; omega, fun n hn => by simp at hn, by simp, fun n hn => by simp at hn, fun b hb H11 s11 => ?_⟩
    have hbf : b = false := by
      cases b with
      | false => rfl
      | true =>
        have := (hb.mp rfl).1 _ hn0
        simp at this
    subst hbf
    exact ⟨false, false, rfl, hret _⟩
end
end K6
set_option Elab.async false
set_option linter.all false
set_option maxRecDepth 100000
set_option maxHeartbeats 4000000
namespace K6
open PySem PySem.Spec PyProof.Rows L2 L2H
section
variable {P : Program} {w : World} {K : PySem.W.Frag} {mg : Str → Option Value} {base : Heap} {D : Ads}
def spLaw (K : PySem.W.Frag) : Sp := fun vs H Q _ => ∃ (a : Addr) (ns : List Int), vs = [.ref a] ∧ SqL K H a (ns.map V.int) ∧ ns.length ≤ 63 ∧ ∀ H', Q (.bl true) H'
def cellF (s : Scope) : Scope := { s with names := s.names.map fun (n, k) => if (k == NameKind.free) then (n, NameKind.cell) else (n, k) }
abbrev scWordsIn : Scope := cellF scWords
theorem suiteP {X : Cx} {a : Addr} {oe : Obj} {cls : Value} {d : Option Addr} {pn : List (Addr × Obj)} {body : List Stmt} {t : TS} (hz : L2N.Zn cls d oe) (hf : ∃ vs, oe.data = .fields vs) (h : HotC (X.suite a ((a, oe) :: pn)) → PSs (X.suite a ((a, oe) :: pn)) body t) : PSs (X.suite a ((a, oe) :: pn)) body t := h (hot_suite hz hf)
theorem cr_anyHK {X : Cx} (K : PySem.W.Frag) (hK : X.K = K) (hc : HotC X) : CallR X (.builtin "any") (rAny K) := by subst hK; exact cr_anyH hc
theorem pe_lcLK {X : Cx} {elt tg iter : Expr} {ifs : List Expr} {scope : Scope} {own : List (Str × Nat)} {pos : PySem.Pos} {tl : TE} {g : TG} {tt : TT} {te : TE} (K : PySem.W.Frag) (hK : X.K = K) (hc : HotC X) (hN : X.N.Nodup) (hl : PE X iter tl) (ok : BlkOk X.N X.env.scope scope own)
    (hg : ∀ (s : Shared) (H : Hp) (C : Addr) (cl : List (Str × Addr)) (fp : List Addr), PG (X.blk s H scope (compEnvC scope cl C X.env) fp) tg g) (ht : ∀ (s : Shared) (H : Hp) (C : Addr) (cl : List (Str × Addr)) (fp : List Addr), PTs (X.blk s H scope (compEnvC scope cl C X.env) fp) ifs tt)
    (he : ∀ (s : Shared) (H : Hp) (C : Addr) (cl : List (Str × Addr)) (fp : List Addr), PE (X.blk s H scope (compEnvC scope cl C X.env) fp) elt te) (hs : ∀ x, foldedSetIterable iter X.env x = pure x := by intro _; rfl) :
    PE X (.ListComp elt [⟨tg, iter, ifs, 0⟩] scope pos) (tLc (iList K tl) g tt te (own.map (·.2))) := by
  subst hK
  exact pe_lcL hc hN hl ok hg ht he hs
theorem ok_law (TV : Txv w K mg D) : FnOk P w K mg base CX0 60 (D.d 69).f (D.d 69).fd ["_law_script"] (spLaw K) := by
  have U := TV.U
  have T := U.T
  refine TV.w69.ok scLaw (fun vs H Q E h => ?_) (fun cdv A outer s H vs Q E hr h => ?_)
  · obtain ⟨_, _, rfl, _⟩ := h
    rfl
  · obtain ⟨a, ns, rfl, hS, hlen, k⟩ := h
    refine ⟨_, (pss_cons (ps_set (i := 1) scLaw.nd rfl (by first | exact Or.inl rfl | exact Or.inr rfl) (pe_lst (pa_cons (pe_slice sl_list (pv 0) po_none (po_some pe_int)) (pa_cons pe_int (pa_cons pe_int pa_nil)))))
      (pss_cons (ps_set (i := 2) scLaw.nd rfl (by first | exact Or.inl rfl | exact Or.inr rfl) (pe_slice sl_list (pe_lst (pa_cons pe_str (pa_cons pe_str (pa_cons pe_str pa_nil)))) po_none (po_some (pe_op op_add pe_int (pe_call (ok_lawNext T) (hr.mono (by decide)) (by rfl) T.w61.m T.w61.F.kp T.w61.B .nil pass0 (pa_cons (pv 1) (pa_cons pe_int pa_nil)))))))
      (pss_cons (ps_set (i := 3) scLaw.nd rfl (by first | exact Or.inl rfl | exact Or.inr rfl) (pe_callTy (call_dictP rfl) (by rfl) T.dict boot_dict (pa_cons (pe_lc (own := [("_law_name", 17)]) (by rfl) scLaw.nd (pi_list (pv 2)) (blkOk_by (own := [("_law_name", 17)]) (N := ["_law_script", "_law_draw_here", "_law_names", "_law_looms", "_law_words", "_law_order", "_law_things", "e", "_law_least", "_law_width", "_law_late", "_law_told", "_law_word", "_law_less", "_law_row", "_law_lap", "_law_turn", "_law_name", "_law_node"]) (sc := defScope sLaw) (by decide +kernel)) (fun _ _ _ _ _ => (pg_name (i := 17) scLaw.nd rfl (by first | exact Or.inl rfl | exact Or.inr rfl))) (fun _ _ _ _ _ => pts_nil) (fun _ _ _ _ _ => (pe_tup (pa_cons (pv 17) (pa_cons (pe_call (ok_lawLoom T) (hr.mono (by decide)) (by rfl) T.w65.m T.w65.F.kp T.w65.B .nil pass0 (pa_cons (pv 1) (pa_cons (pv 2) pa_nil))) pa_nil))))) pa_nil)))
      (pss_cons (ps_set (i := 4) scLaw.nd rfl (by first | exact Or.inl rfl | exact Or.inr rfl) (pe_lc (own := [("_law_lap", 15)]) (by rfl) scLaw.nd (pi_range1 (by rfl) T.range (pa_cons (pe_op op_add pe_int (pe_call (ok_lawNext T) (hr.mono (by decide)) (by rfl) T.w61.m T.w61.F.kp T.w61.B .nil pass0 (pa_cons (pv 1) (pa_cons pe_int pa_nil)))) pa_nil)) (blkOk_by (own := [("_law_lap", 15)]) (N := ["_law_script", "_law_draw_here", "_law_names", "_law_looms", "_law_words", "_law_order", "_law_things", "e", "_law_least", "_law_width", "_law_late", "_law_told", "_law_word", "_law_less", "_law_row", "_law_lap", "_law_turn", "_law_name", "_law_node"]) (sc := defScope sLaw) (by decide +kernel)) (fun _ _ _ _ _ => (pg_name (i := 15) scLaw.nd rfl (by first | exact Or.inl rfl | exact Or.inr rfl))) (fun _ _ _ _ _ => pts_nil) (fun _ _ _ _ _ => (pe_callTy (call_tuple_ofK K (by rfl)) (by rfl) T.tuple boot_tuple (pa_cons (pe_lc (own := [("_law_turn", 16)]) (by rfl) scLaw.nd (pi_range1 (by rfl) T.range (pa_cons (pe_op op_add pe_int (pe_call (ok_lawNext T) (hr.mono (by decide)) (by rfl) T.w61.m T.w61.F.kp T.w61.B .nil pass0 (pa_cons (pv 1) (pa_cons pe_int pa_nil)))) pa_nil)) (blkOk_by (own := [("_law_turn", 16)]) (N := ["_law_script", "_law_draw_here", "_law_names", "_law_looms", "_law_words", "_law_order", "_law_things", "e", "_law_least", "_law_width", "_law_late", "_law_told", "_law_word", "_law_less", "_law_row", "_law_lap", "_law_turn", "_law_name", "_law_node"]) (sc := scWordsIn) (by decide +kernel)) (fun _ _ _ _ _ => (pg_name (i := 16) scLaw.nd rfl (by first | exact Or.inl rfl | exact Or.inr rfl))) (fun _ _ _ _ _ => pts_nil) (fun _ _ _ _ _ => (pe_call (ok_lawNext T) (hr.mono (by decide)) (by rfl) T.w61.m T.w61.F.kp T.w61.B .nil pass0 (pa_cons (pv 1) (pa_cons pe_int pa_nil))))) pa_nil)))))
      (pss_cons (ps_set (i := 5) scLaw.nd rfl (by first | exact Or.inl rfl | exact Or.inr rfl) (pe_call (ok_lawPick T) (hr.mono (by decide)) (by rfl) T.w62.m T.w62.F.kp T.w62.B .nil pass0 (pa_cons (pv 1) (pa_cons (pe_lst (pa_cons pe_str (pa_cons pe_str (pa_cons pe_str pa_nil)))) pa_nil))))
      (pss_cons (ps_setLc (i := 6) (own := [("_law_turn", 16)]) (by rfl) scLaw.nd rfl rfl (sw_true rfl rfl rfl (by decide +kernel)) (pi_range1 (by rfl) T.range (pa_cons (pe_call (ok_lawPick T) (hr.mono (by decide)) (by rfl) T.w62.m T.w62.F.kp T.w62.B .nil pass0 (pa_cons (pv 1) (pa_cons (pe_lst (pa_cons pe_int (pa_cons pe_int (pa_cons pe_int (pa_cons pe_int pa_nil))))) pa_nil))) pa_nil)) (blkOk_by (own := [("_law_turn", 16)]) (N := ["_law_script", "_law_draw_here", "_law_names", "_law_looms", "_law_words", "_law_order", "_law_things", "e", "_law_least", "_law_width", "_law_late", "_law_told", "_law_word", "_law_less", "_law_row", "_law_lap", "_law_turn", "_law_name", "_law_node"]) (sc := defScope sLaw) (by decide +kernel)) (fun _ _ _ _ _ => (pg_name (i := 16) scLaw.nd rfl (by first | exact Or.inl rfl | exact Or.inr rfl))) (fun _ _ _ _ _ => pts_nil) (fun _ _ _ _ _ => (pe_call (ok_lawNext T) (hr.mono (by decide)) (by rfl) T.w61.m T.w61.F.kp T.w61.B .nil pass0 (pa_cons (pv 1) (pa_cons pe_int pa_nil)))))
      (pss_cons (ps_if (pt_cmpR (op_neD hr.units) (pe_call (ok_loomed T) (hr.mono (by decide)) (by rfl) T.w28.m T.w28.F.kp T.w28.B .nil pass0 (pa_cons (pv 3) (pa_cons pe_str (pa_cons (pv 6) pa_nil)))) (pe_call (ok_lawDoneA T) (hr.mono (by decide)) (by rfl) T.w67.m T.w67.F.kp T.w67.B .nil pass0 (pa_cons (pv 3) (pa_cons pe_str (pa_cons (pv 6) pa_nil)))) (nomark _)) (pss_one (ps_ret pe_bl)) pss_nil)
      (pss_cons (L2N.ps_try_as (i := 7) (Wout := fun _ _ _ _ => False) rfl rfl scLaw.nd rfl rfl ⟨rfl, by decide, Or.inl U.oM⟩ takesN0
 (fun W pn xe tk _ => (pss_one (ps_set (i := 11) scLaw.nd rfl (by first | exact Or.inl rfl | exact Or.inr rfl) (pe_callS (ok_judgeBlocks U) (hr.mono (by decide)) (by rfl) T.w56.m T.w56.F.kp T.w56.B (fun σ => L2N.passAt tk σ) (pa_cons (pv 3) (pa_cons pe_str (pa_cons (pv 4) (pa_cons (pv 5) pa_nil))))))))
 (fun a oe cls d pn hz hf => suiteP hz hf fun hot => (pss_one (ps_ret (pe_and (pe_cmpR op_eq (pe_xf U.oxf U.owhy hz.zc hf (pv 7)) pe_str (nomark _)) (pe_one (pe_callB (cr_anyHK K (by rfl) hot) (by rfl) T.any boot_any (pa_cons (pe_lcLK K (by rfl) (own := [("_law_name", 17)]) hot scLaw.nd (pv 2) (blkOk_by (own := [("_law_name", 17)]) (N := ["_law_script", "_law_draw_here", "_law_names", "_law_looms", "_law_words", "_law_order", "_law_things", "e", "_law_least", "_law_width", "_law_late", "_law_told", "_law_word", "_law_less", "_law_row", "_law_lap", "_law_turn", "_law_name", "_law_node"]) (sc := defScope sLaw) (by decide +kernel)) (fun _ _ _ _ _ => (pg_name (i := 17) scLaw.nd rfl (by first | exact Or.inl rfl | exact Or.inr rfl))) (fun _ _ _ _ _ => pts_nil) (fun _ _ _ _ _ => (pe_cmpR op_gt (pe_callB (call_len_seqK K (by rfl)) (by rfl) T.len boot_len (pa_cons (pe_ix (ix_tupK K (by rfl)) (pe_dget (hu_of hr :) (pv 3) (pv 17) (fun _ _ => rfl)) pe_int (fun _ _ => rfl)) pa_nil)) pe_int (nomark _)))) pa_nil))))))))
      (pss_cons (ps_if (PW.pt (pw_or (pt_not (pt_val (pe_call (ok_lawSays T) (hr.mono (by decide)) (by rfl) T.w63.m T.w63.F.kp T.w63.B .nil pass0 (pa_cons (pe_meth2 (pv 11) T.keptC T.w464.M ((ok_keptShows U).mono (by decide)) T.w464.B T.brokenC T.w473.M (ok_brokenShows U) T.w473.B (hr.mono (by decide)) (pa_cons (pv 3) (pa_cons pe_str (pa_cons (pe_callTy call_tuple_of (by rfl) T.tuple boot_tuple (pa_cons (pv 4) pa_nil)) (pa_cons (pv 5) pa_nil))))) (pa_cons pe_bl pa_nil))))) (pw_or1 (pt_cmpR op_ne (pe_callTy (call_bool_ans (D := D) T (hr.mono (by decide))) (by rfl) T.bool boot_bool (pa_cons (pv 11) pa_nil)) (pe_callB call_isi (by rfl) T.isinstance boot_isinstance (pa_cons (pv 11) (pa_cons (pe_glob (v := .ref D.kept) (by rfl) T.w460.m rfl) pa_nil))) (nomark _))))) (pss_one (ps_ret pe_bl)) pss_nil)
      (pss_cons (ps_set (i := 8) scLaw.nd rfl (by first | exact Or.inl rfl | exact Or.inr rfl) pe_non)
      (pss_cons (ps_for PassesOwn.never rfl (pi_tup (pe_tup (pa_cons pe_int (pa_cons pe_int (pa_cons pe_int (pa_cons pe_int (pa_cons pe_int pa_nil))))))) (pg_name (i := 9) scLaw.nd rfl (by first | exact Or.inl rfl | exact Or.inr rfl)) (pss_one (ps_for PassesOwn.never rfl (pi_list (pv 4)) (pg_name (i := 12) scLaw.nd rfl (by first | exact Or.inl rfl | exact Or.inr rfl)) (pss_one (ps_for PassesOwn.never rfl (pi_list (pe_call (ok_lawSpreadA T) (hr.mono (by decide)) (by rfl) T.w68.m T.w68.F.kp T.w68.B .nil pass0 (pa_cons (pv 12) (pa_cons (pv 9) pa_nil)))) (pg_name (i := 14) scLaw.nd rfl (by first | exact Or.inl rfl | exact Or.inr rfl)) (pss_cons (ps_set (i := 10) scLaw.nd rfl (by first | exact Or.inl rfl | exact Or.inr rfl) (pe_call (ok_lawDoneA T) (hr.mono (by decide)) (by rfl) T.w67.m T.w67.F.kp T.w67.B .nil pass0 (pa_cons (pv 3) (pa_cons pe_str (pa_cons (pv 14) pa_nil)))))
      (pss_one (ps_if (PW.pt (pw_and (pt_cmpR (op_neD hr.units) (pv 10) (pe_ifExp (pt_cmpR op_eq (pv 5) pe_str (nomark _)) (pe_callB cr_sortedI (by rfl) T.sorted boot_sorted (pa_cons (pv 14) pa_nil)) (pe_revL (pe_callB cr_sortedI (by rfl) T.sorted boot_sorted (pa_cons (pv 14) pa_nil)))) (nomark _)) (pw_and1 (pt_cmp (pc_isN (pv 8)) rfl)))) (pss_one (ps_set (i := 8) scLaw.nd rfl (by first | exact Or.inl rfl | exact Or.inr rfl) (pv 14))) pss_nil))))))))
      (pss_cons (ps_if (PW.pt (pw_or (PW.pt (pw_and (pt_cmp (pc_notN (pv 8)) rfl) (pw_and1 (PW.pt (pw_or (pt_ans (D := D) T (hr.mono (by decide)) (pv 11)) (pw_or1 (pt_cmpR op_ne (pe_callB call_len_seq (by rfl) T.len boot_len (pa_cons (pe_fld (pv 11) (by rfl)) pa_nil)) (pe_callB call_len_seq (by rfl) T.len boot_len (pa_cons (pv 8) pa_nil)) (nomark _)))))))) (pw_or1 (PW.pt (pw_and (pt_cmp (pc_isN (pv 8)) rfl) (pw_and (pt_not (pt_ans (D := D) T (hr.mono (by decide)) (pv 11))) (pw_and1 (pt_cmpR op_lt (pe_callB call_len_seq (by rfl) T.len boot_len (pa_cons (pe_fld (pv 11) (by rfl)) pa_nil)) pe_int (nomark _))))))))) (pss_one (ps_ret pe_bl)) pss_nil)
      (pss_cons (ps_if (pt_ans (D := D) T (hr.mono (by decide)) (pv 11)) (pss_cons (ps_setLc (i := 13) (own := [("_law_node", 18)]) (by rfl) scLaw.nd rfl rfl (sw_true rfl rfl rfl (by decide +kernel)) (pi_list (pe_fld (pv 11) (by rfl))) (blkOk_by (own := [("_law_node", 18)]) (N := ["_law_script", "_law_draw_here", "_law_names", "_law_looms", "_law_words", "_law_order", "_law_things", "e", "_law_least", "_law_width", "_law_late", "_law_told", "_law_word", "_law_less", "_law_row", "_law_lap", "_law_turn", "_law_name", "_law_node"]) (sc := defScope sLaw) (by decide +kernel)) (fun _ _ _ _ _ => (pg_name (i := 18) scLaw.nd rfl (by first | exact Or.inl rfl | exact Or.inr rfl))) (fun _ _ _ _ _ => (pts_one (pt_cmpR (op_neDK K (by rfl) hr.units) (pv 18) (pe_tup (pa_cons pe_str (pa_cons (pv 5) (pa_cons (pe_ix (ix_listK K (by rfl)) (pv 4) pe_int (fun _ _ => rfl)) pa_nil)))) (nomark _)))) (fun _ _ _ _ _ => (pv 18)))
      (pss_one (ps_ret (pe_call (ok_lawSays T) (hr.mono (by decide)) (by rfl) T.w63.m T.w63.F.kp T.w63.B .nil pass0 (pa_cons (pe_meth (pe_make T.w460.M (ok_keptInit T) (hr.mono (by decide)) (by rfl) T.w460.m T.w460.B .nil pass0 (pa_cons (pv 13) pa_nil)) T.keptC T.w464.M (ok_keptShows U) (hr.mono (by decide)) T.w464.B .nil pass0 (pa_cons (pv 3) (pa_cons pe_str (pa_cons (pv 4) (pa_cons (pv 5) pa_nil))))) (pa_cons pe_bl pa_nil)))))) pss_nil)
      (pss_cons (ps_set (i := 10) scLaw.nd rfl (by first | exact Or.inl rfl | exact Or.inr rfl) (pe_call (ok_lawDoneA T) (hr.mono (by decide)) (by rfl) T.w67.m T.w67.F.kp T.w67.B .nil pass0 (pa_cons (pv 3) (pa_cons pe_str (pa_cons (pe_fld (pv 11) (by rfl)) pa_nil)))))
      (pss_cons (ps_if (pt_cmpR (op_eqD hr.units) (pv 10) (pe_ifExp (pt_cmpR op_eq (pv 5) pe_str (nomark _)) (pe_callB cr_sortedI (by rfl) T.sorted boot_sorted (pa_cons (pv 10) pa_nil)) (pe_revL (pe_callB cr_sortedI (by rfl) T.sorted boot_sorted (pa_cons (pv 10) pa_nil)))) (nomark _)) (pss_one (ps_ret pe_bl)) pss_nil)
      (pss_one (ps_ret (pe_and (pe_call (ok_lawSays T) (hr.mono (by decide)) (by rfl) T.w63.m T.w63.F.kp T.w63.B .nil pass0 (pa_cons (pe_meth (pe_make T.w470.M (ok_brokenInit T) (hr.mono (by decide)) (by rfl) T.w470.m T.w470.B .nil pass0 (pa_cons (pe_op op_cat (pe_fld (pv 11) (by rfl)) (pe_fld (pv 11) (by rfl))) pa_nil)) T.brokenC T.w473.M (ok_brokenShows U) (hr.mono (by decide)) T.w473.B .nil pass0 (pa_cons (pv 3) (pa_cons pe_str (pa_cons (pv 4) (pa_cons (pv 5) pa_nil))))) (pa_cons pe_bl pa_nil))) (pe_one (pe_call (ok_lawSays T) (hr.mono (by decide)) (by rfl) T.w63.m T.w63.F.kp T.w63.B .nil pass0 (pa_cons (pe_meth (pe_make T.w460.M (ok_keptInit T) (hr.mono (by decide)) (by rfl) T.w460.m T.w460.B .nil pass0 (pa_cons (pe_lst pa_nil) pa_nil)) T.keptC T.w464.M (ok_keptShows U) (hr.mono (by decide)) T.w464.B .nil pass0 (pa_cons (pv 3) (pa_cons pe_str (pa_cons (pv 4) (pa_cons (pv 5) pa_nil))))) (pa_cons pe_bl pa_nil)))))))))))))))))))))), ?_⟩
    exact law_setup hS hlen fun z1 v na wa th L xs ws up tl j H1 F1 => law_same F1 rfl rfl fun H2 s2 => law_try (F1.mono s2) TV.oo (fun H' => k H') fun x H3 s3 hI hx =>
      hx.elim (fun hk => law_kept TV ((F1.mono s2).mono s3) hI hk (fun H' => k H')) (fun hb => law_broken TV ((F1.mono s2).mono s3) hI hb (fun H' => k H'))
end
end K6
set_option Elab.async false
set_option linter.all false
set_option maxRecDepth 100000
set_option maxHeartbeats 4000000
namespace K6
open PySem PySem.Spec PyProof.Rows L2
/-! ### how the arguments are bound -/
abbrev BindE (x qual : Str) (st : Stmt) (ps : List Str) : Prop := ∀ (kV doc pm : Value) (an : Option Addr) (cdv ct : Value) (us : List Value), us.length = ps.length → bindArgs (PySem.W.fnOf x qual (defArgs st) (defBody st) (defScope st) .none kV doc pm an cdv ct) ⟨us, []⟩ = pure (ps.zip us)
abbrev BindD (x qual : Str) (st : Stmt) (ps : List Str) : Prop := ∀ (T : Addr) (v : Value) (kV doc pm : Value) (an : Option Addr) (cdv ct : Value) (us : List Value), us.length = ps.length → ∃ k, bindArgs (PySem.W.fnOf x qual (defArgs st) (defBody st) (defScope st) (.ref T) kV doc pm an cdv ct) ⟨us, []⟩ = seqItems? (.ref T) >>= k ∧ k (some #[v]) = pure (ps.zip us)
theorem bi7 : BindE "is_whole" "is_whole" sIsWhole ["thing"] := fun _ _ _ _ _ _ us hl => match us, hl with | [_], _ => rfl
theorem bi8 : BindE "is_sign" "is_sign" sIsSign ["thing"] := fun _ _ _ _ _ _ us hl => match us, hl with | [_], _ => rfl
theorem bi9 : BindE "check_signs" "check_signs" sCheckSigns ["row"] := fun _ _ _ _ _ _ us hl => match us, hl with | [_], _ => rfl
theorem bi16 : BindE "is_title" "is_title" sIsTitle ["thing"] := fun _ _ _ _ _ _ us hl => match us, hl with | [_], _ => rfl
theorem bi17 : BindE "is_step" "is_step" sIsStep ["thing"] := fun _ _ _ _ _ _ us hl => match us, hl with | [_], _ => rfl
theorem bi18 : BindE "is_call" "is_call" sIsCall ["thing", "looms"] := fun _ _ _ _ _ _ us hl => match us, hl with | [_, _], _ => rfl
theorem bi19 : BindE "is_loom" "is_loom" sIsLoom ["thing", "looms"] := fun _ _ _ _ _ _ us hl => match us, hl with | [_, _], _ => rfl
theorem bi20 : BindE "check_looms" "check_looms" sCheckLooms ["looms"] := fun _ _ _ _ _ _ us hl => match us, hl with | [_], _ => rfl
theorem bi21 : BindE "check_name" "check_name" sCheckName ["looms", "name"] := fun _ _ _ _ _ _ us hl => match us, hl with | [_, _], _ => rfl
theorem bi22 : BindE "relations" "relations" sRelations ["steps"] := fun _ _ _ _ _ _ us hl => match us, hl with | [_], _ => rfl
theorem bi23 : BindE "check_inside" "check_inside" sCheckInside ["looms"] := fun _ _ _ _ _ _ us hl => match us, hl with | [_], _ => rfl
theorem bi24 : BindE "order_pair" "order_pair" sOrderPair ["one", "other", "order"] := fun _ _ _ _ _ _ us hl => match us, hl with | [_, _, _], _ => rfl
theorem bi25 : BindE "stepped" "stepped" sStepped ["step", "left", "right"] := fun _ _ _ _ _ _ us hl => match us, hl with | [_, _, _], _ => rfl
theorem bi26 : BindE "is_power" "is_power" sIsPower ["number"] := fun _ _ _ _ _ _ us hl => match us, hl with | [_], _ => rfl
theorem bi27 : BindE "check_width" "check_width" sCheckWidth ["row"] := fun _ _ _ _ _ _ us hl => match us, hl with | [_], _ => rfl
theorem bi28 : BindE "loomed" "loomed" sLoomed ["looms", "name", "row"] := fun _ _ _ _ _ _ us hl => match us, hl with | [_, _, _], _ => rfl
theorem bi29 : BindE "done" "done" sDone ["looms", "name", "row"] := fun _ _ _ _ _ _ us hl => match us, hl with | [_, _, _], _ => rfl
theorem bi30 : BindE "called" "called" sCalled ["looms", "call", "row"] := fun _ _ _ _ _ _ us hl => match us, hl with | [_, _, _], _ => rfl
theorem bi32 : BindE "overlays" "overlays" sOverlays ["left", "right"] := fun _ _ _ _ _ _ us hl => match us, hl with | [_, _], _ => rfl
theorem bi33 : BindE "splits" "splits" sSplits ["word"] := fun _ _ _ _ _ _ us hl => match us, hl with | [_], _ => rfl
theorem bi35 : BindE "levels" "levels" sLevels ["steps", "word"] := fun _ _ _ _ _ _ us hl => match us, hl with | [_, _], _ => rfl
theorem bi39 : BindE "is_sorted" "is_sorted" sIsSorted ["word", "order"] := fun _ _ _ _ _ _ us hl => match us, hl with | [_, _], _ => rfl
theorem bi40 : BindE "is_word" "is_word" sIsWord ["thing"] := fun _ _ _ _ _ _ us hl => match us, hl with | [_], _ => rfl
theorem bi41 : BindE "check_order" "check_order" sCheckOrder ["order"] := fun _ _ _ _ _ _ us hl => match us, hl with | [_], _ => rfl
theorem bi42 : BindE "check_words" "check_words" sCheckWords ["words"] := fun _ _ _ _ _ _ us hl => match us, hl with | [_], _ => rfl
theorem bi43 : BindE "node_of" "node_of" sNodeOf ["call", "order", "word"] := fun _ _ _ _ _ _ us hl => match us, hl with | [_, _, _], _ => rfl
theorem bi44 : BindE "steps_of" "steps_of" sStepsOf ["looms", "node"] := fun _ _ _ _ _ _ us hl => match us, hl with | [_, _], _ => rfl
theorem bi45 : BindE "rows_for" "rows_for" sRowsFor ["loom", "order", "ways"] := fun _ _ _ _ _ _ us hl => match us, hl with | [_, _, _], _ => rfl
theorem bi48 : BindE "has_blocks" "has_blocks" sHasBlocks ["row", "word"] := fun _ _ _ _ _ _ us hl => match us, hl with | [_, _], _ => rfl
theorem bi49 : BindE "check_blocks" "check_blocks" sCheckBlocks ["looms", "name", "words", "order"] := fun _ _ _ _ _ _ us hl => match us, hl with | [_, _, _, _], _ => rfl
theorem bi50 : BindE "closed_from" "closed_from" sClosedFrom ["looms", "nodes"] := fun _ _ _ _ _ _ us hl => match us, hl with | [_, _], _ => rfl
theorem bi51 : BindE "row_at" "row_at" sRowAt ["level", "lengths"] := fun _ _ _ _ _ _ us hl => match us, hl with | [_, _], _ => rfl
theorem bi52 : BindE "built" "built" sBuilt ["path", "level", "half"] := fun _ _ _ _ _ _ us hl => match us, hl with | [_, _, _], _ => rfl
theorem bi54 : BindE "least_row" "least_row" sLeastRow ["looms", "rows"] := fun _ _ _ _ _ _ us hl => match us, hl with | [_, _], _ => rfl
theorem bi55 : BindE "first_steps" "first_steps" sFirstSteps ["looms", "name", "words", "order"] := fun _ _ _ _ _ _ us hl => match us, hl with | [_, _, _, _], _ => rfl
theorem bi56 : BindD "judge_blocks" "judge_blocks" sJudgeBlocks ["looms", "name", "words", "order"] := fun _ _ _ _ _ _ _ _ us hl => match us, hl with | [_, _, _, _], _ => ⟨_, rfl, rfl⟩
theorem bi58 : BindE "_law_cell_at" "_law_cell_at" sLawCellAt ["_law_script", "_law_k"] := fun _ _ _ _ _ _ us hl => match us, hl with | [_, _], _ => rfl
theorem bi59 : BindE "_law_draw" "_law_draw" sLawDraw ["_law_cell", "_law_k", "_law_bound"] := fun _ _ _ _ _ _ us hl => match us, hl with | [_, _, _], _ => rfl
theorem bi60 : BindE "_law_number" "_law_number" sLawNumber ["_law_cell", "_law_k", "_law_bound"] := fun _ _ _ _ _ _ us hl => match us, hl with | [_, _, _], _ => rfl
theorem bi61 : BindE "_law_next" "_law_next" sLawNext ["_law_draw_here", "_law_bound"] := fun _ _ _ _ _ _ us hl => match us, hl with | [_, _], _ => rfl
theorem bi62 : BindE "_law_pick" "_law_pick" sLawPick ["_law_draw_here", "_law_things"] := fun _ _ _ _ _ _ us hl => match us, hl with | [_, _], _ => rfl
theorem bi63 : BindE "_law_says" "_law_says" sLawSays ["_law_told", "_law_due"] := fun _ _ _ _ _ _ us hl => match us, hl with | [_, _], _ => rfl
theorem bi64 : BindE "_law_step" "_law_step" sLawStep ["_law_draw_here"] := fun _ _ _ _ _ _ us hl => match us, hl with | [_], _ => rfl
theorem bi65 : BindE "_law_loom" "_law_loom" sLawLoom ["_law_draw_here", "_law_names"] := fun _ _ _ _ _ _ us hl => match us, hl with | [_, _], _ => rfl
theorem bi66 : BindE "_law_halves" "_law_halves" sLawHalves ["_law_step_here", "_law_left", "_law_right"] := fun _ _ _ _ _ _ us hl => match us, hl with | [_, _, _], _ => rfl
theorem bi67 : BindE "_law_done" "_law_done" sLawDone ["_law_looms", "_law_name", "_law_row"] := fun _ _ _ _ _ _ us hl => match us, hl with | [_, _, _], _ => rfl
theorem bi68 : BindE "_law_spread" "_law_spread" sLawSpread ["_law_word", "_law_width"] := fun _ _ _ _ _ _ us hl => match us, hl with | [_, _], _ => rfl
theorem bi340 : BindE "__init__" "Level.__init__" sLevelInit ["self", "steps", "halves", "way"] := fun _ _ _ _ _ _ us hl => match us, hl with | [_, _, _, _], _ => rfl
theorem bi460 : BindE "__init__" "Kept.__init__" sKeptInit ["self", "nodes"] := fun _ _ _ _ _ _ us hl => match us, hl with | [_, _], _ => rfl
theorem bi470 : BindE "__init__" "Broken.__init__" sBrokenInit ["self", "row"] := fun _ _ _ _ _ _ us hl => match us, hl with | [_, _], _ => rfl
theorem bi530 : BindE "__init__" "Search.__init__" sSearchInit ["self", "looms"] := fun _ _ _ _ _ _ us hl => match us, hl with | [_, _], _ => rfl
theorem bi341 : BindE "step" "Level.step" sLevelStep ["self", "step"] := fun _ _ _ _ _ _ us hl => match us, hl with | [_, _], _ => rfl
theorem bi342 : BindE "half" "Level.half" sLevelHalf ["self", "side"] := fun _ _ _ _ _ _ us hl => match us, hl with | [_, _], _ => rfl
theorem bi343 : BindE "is_bad" "Level.is_bad" sLevelIsBad ["self", "order"] := fun _ _ _ _ _ _ us hl => match us, hl with | [_, _], _ => rfl
theorem bi462 : BindE "__bool__" "Kept.__bool__" sKeptBool ["self"] := fun _ _ _ _ _ _ us hl => match us, hl with | [_], _ => rfl
theorem bi463 : BindE "is_closed" "Kept.is_closed" sKeptIsClosed ["self", "looms", "rows"] := fun _ _ _ _ _ _ us hl => match us, hl with | [_, _, _], _ => rfl
theorem bi464 : BindD "shows" "Kept.shows" sKeptShows ["self", "looms", "name", "words", "order"] := fun _ _ _ _ _ _ _ _ us hl => match us, hl with | [_, _, _, _, _], _ => ⟨_, rfl, rfl⟩
theorem bi472 : BindE "__bool__" "Broken.__bool__" sBrokenBool ["self"] := fun _ _ _ _ _ _ us hl => match us, hl with | [_], _ => rfl
theorem bi473 : BindD "shows" "Broken.shows" sBrokenShows ["self", "looms", "name", "words", "order"] := fun _ _ _ _ _ _ _ _ us hl => match us, hl with | [_, _, _, _, _], _ => ⟨_, rfl, rfl⟩
theorem bi531 : BindE "found" "Search.found" sSearchFound ["self", "rows", "size"] := fun _ _ _ _ _ _ us hl => match us, hl with | [_, _, _], _ => rfl
theorem bi500 : BindE "__init__" "Outside.__init__" sOutsideInit ["self", "why"] := fun _ _ _ _ _ _ us hl => match us, hl with | [_, _], _ => rfl
theorem bi69 : BindE "law" "law" sLaw ["_law_script"] := fun _ _ _ _ _ _ us hl => match us, hl with | [_], _ => rfl
/-! ### the facts, one by one -/
section
variable {K : PySem.W.Frag} {h : Heap} {mg : Str → Option Value}
theorem fn_mk {x qual : Str} {st : Stmt} {f : Addr} {oc : Value} {od an : Option Addr} {sl : Array (Option Value)} {dV kV dc pm cd ct : Value} (l : K.lookup f = some ⟨oc, od, .func (PySem.W.fnOf x qual (defArgs st) (defBody st) (defScope st) dV kV dc pm an cd ct), sl⟩)
    (c : PySem.W.codeIn K cd qual = true) (k : PySem.W.keepIn K (.ref f) = true) : Fn K x qual st f (PySem.W.fnOf x qual (defArgs st) (defBody st) (defScope st) dV kV dc pm an cd ct) := ⟨⟨oc, od, dV, kV, dc, pm, an, cd, ct, sl, rfl, l, c⟩, k⟩
theorem binds_dfl {fd : FuncData} {ps : List Str} {T : Addr} {oc : Value} {od : Option Addr} {n : Nat} {sl : Array (Option Value)} {v : Value} (hd : fd.defaults = .ref T) (l : K.lookup T = some ⟨oc, od, .seq #[v] n, sl⟩)
    (b : ∀ us : List Value, us.length = ps.length → ∃ k, bindArgs fd ⟨us, []⟩ = seqItems? (.ref T) >>= k ∧ k (some #[v]) = pure (ps.zip us)) : Binds K fd ps [] := fun s us X hl => by
  rw [List.append_nil] at hl ⊢
  obtain ⟨k, h1, h2⟩ := b us hl
  exact .of_defaults hd (X _ _ l) rfl (by rw [hd]; exact h1) h2
structure LawOk (K : PySem.W.Frag) (mg : Str → Option Value) (d : Def) : Prop where
  F : Fn K "law" "law" sLaw d.f d.fd
  m : mg "law" = some (.ref d.f)
  B : ∀ (s : Shared) (v : Value), BindsTo s d.fd ⟨[v], []⟩ [("_law_script", v)]
theorem def_mk {x : Str} {st : Stmt} {ps : List Str} {f : Addr} {oc : Value} {od an : Option Addr} {sl : Array (Option Value)} {kV dc pm cd ct : Value} (X : K.In h) (G : h.Ns mainGlobals mg) (b : BindE x x st ps) (a : PySem.W.nsIn K mainGlobals x = some (some (.ref f)))
    (l : K.lookup f = some ⟨oc, od, .func (PySem.W.fnOf x x (defArgs st) (defBody st) (defScope st) .none kV dc pm an cd ct), sl⟩) (c : PySem.W.codeIn K cd x = true) (k : PySem.W.keepIn K (.ref f) = true) :
    DefOk K mg x st ps ⟨f, PySem.W.fnOf x x (defArgs st) (defBody st) (defScope st) .none kV dc pm an cd ct⟩ := ⟨fn_mk l c k, .all (b kV dc pm an cd ct), PySem.W.mg_of X G a⟩
theorem def_mkD {x : Str} {st : Stmt} {ps : List Str} {f T : Addr} {oc ot v : Value} {od an ot2 : Option Addr} {nt : Nat} {sl st2 : Array (Option Value)} {kV dc pm cd ct : Value} (X : K.In h) (G : h.Ns mainGlobals mg) (b : BindD x x st ps) (a : PySem.W.nsIn K mainGlobals x = some (some (.ref f)))
    (l : K.lookup f = some ⟨oc, od, .func (PySem.W.fnOf x x (defArgs st) (defBody st) (defScope st) (.ref T) kV dc pm an cd ct), sl⟩) (t : K.lookup T = some ⟨ot, ot2, .seq #[v] nt, st2⟩) (c : PySem.W.codeIn K cd x = true) (k : PySem.W.keepIn K (.ref f) = true) :
    DefOk K mg x st ps ⟨f, PySem.W.fnOf x x (defArgs st) (defBody st) (defScope st) (.ref T) kV dc pm an cd ct⟩ := ⟨fn_mk l c k, binds_dfl rfl t (b T v kV dc pm an cd ct), PySem.W.mg_of X G a⟩
theorem met_mk {C : Addr} {x q : Str} {st : Stmt} {ps : List Str} {f : Addr} {oc : Value} {od an : Option Addr} {sl : Array (Option Value)} {kV dc pm cd ct : Value} (b : BindE x q st ps) (a : PySem.W.findIn K (.ref C) x = some (some (.ref f)))
    (l : K.lookup f = some ⟨oc, od, .func (PySem.W.fnOf x q (defArgs st) (defBody st) (defScope st) .none kV dc pm an cd ct), sl⟩) (c : PySem.W.codeIn K cd q = true) (k : PySem.W.keepIn K (.ref f) = true) (i : PySem.W.isFn K (.ref f) = true) :
    MetOk K C x q st ps ⟨f, PySem.W.fnOf x q (defArgs st) (defBody st) (defScope st) .none kV dc pm an cd ct⟩ := ⟨fn_mk l c k, .all (b kV dc pm an cd ct), a, i, k⟩
theorem met_mkD {C : Addr} {x q : Str} {st : Stmt} {ps : List Str} {f T : Addr} {oc ot v : Value} {od an ot2 : Option Addr} {nt : Nat} {sl st2 : Array (Option Value)} {kV dc pm cd ct : Value} (b : BindD x q st ps) (a : PySem.W.findIn K (.ref C) x = some (some (.ref f)))
    (l : K.lookup f = some ⟨oc, od, .func (PySem.W.fnOf x q (defArgs st) (defBody st) (defScope st) (.ref T) kV dc pm an cd ct), sl⟩) (t : K.lookup T = some ⟨ot, ot2, .seq #[v] nt, st2⟩) (c : PySem.W.codeIn K cd q = true) (k : PySem.W.keepIn K (.ref f) = true) (i : PySem.W.isFn K (.ref f) = true) :
    MetOk K C x q st ps ⟨f, PySem.W.fnOf x q (defArgs st) (defBody st) (defScope st) (.ref T) kV dc pm an cd ct⟩ := ⟨fn_mk l c k, binds_dfl rfl t (b T v kV dc pm an cd ct), a, i, k⟩
theorem ini_mk {C : Addr} {x q : Str} {st : Stmt} {ps : List Str} {f : Addr} {oc : Value} {od an : Option Addr} {sl : Array (Option Value)} {kV dc pm cd ct : Value} (X : K.In h) (G : h.Ns mainGlobals mg) (b : BindE "__init__" q st ps) (n : PySem.W.nsIn K mainGlobals x = some (some (.ref C))) (a : PySem.W.findIn K (.ref C) "__init__" = some (some (.ref f)))
    (l : K.lookup f = some ⟨oc, od, .func (PySem.W.fnOf "__init__" q (defArgs st) (defBody st) (defScope st) .none kV dc pm an cd ct), sl⟩) (c : PySem.W.codeIn K cd q = true) (k : PySem.W.keepIn K (.ref f) = true) (i : PySem.W.isFn K (.ref f) = true) (m : PySem.W.makesIn K C = true) (kc : PySem.W.keepIn K (.ref C) = true) :
    IniOk K mg C x q st ps ⟨f, PySem.W.fnOf "__init__" q (defArgs st) (defBody st) (defScope st) .none kV dc pm an cd ct⟩ := ⟨fn_mk l c k, .all (b kV dc pm an cd ct), ⟨m, a, i, kc⟩, PySem.W.mg_of X G n⟩
theorem exm_one {S : Addr} (h1 : PySem.W.subIn K (.ref S) (.type "BaseException") = some true) (h2 : PySem.W.isClsIn K S = true) (h3 : PySem.W.typeIn K (.ref S) = some (.type "type")) (h4 : PySem.W.subIn K (.ref S) (.ref S) = some true) : PySem.W.exmOne K (.ref S) (.ref S) = some true := by
  have e1 : (PySem.W.subIn K (.ref S) (.type "BaseException") == some true) = true := by rw [h1]; rfl
  have e2 : ((PySem.W.clsIn K S).isSome && PySem.W.typeIn K (.ref S) == some (.type "type")) = true := by
    rw [show (PySem.W.clsIn K S).isSome = true from h2, h3]; rfl
  show (if (PySem.W.subIn K (.ref S) (.type "BaseException") == some true) = true then PySem.W.kitCls K (.ref S) (.ref S) else none) = some true
  rw [if_pos e1]
  show (if ((PySem.W.clsIn K S).isSome && PySem.W.typeIn K (.ref S) == some (.type "type")) = true then PySem.W.subIn K (.ref S) (.ref S) else none) = some true
  rw [if_pos e2]
  exact h4
theorem kit_two {B S : Addr} {r : Bool} (h1 : (Value.ref B == Value.ref S) = false) (h2 : PySem.W.isClsIn K S = true) (h3 : PySem.W.typeIn K (.ref S) = some (.type "type")) (h4 : PySem.W.subIn K (.ref B) (.ref S) = some r) : PySem.W.kitOne K (.ref B) (.ref S) = some r := by
  have e2 : ((PySem.W.clsIn K S).isSome && PySem.W.typeIn K (.ref S) == some (.type "type")) = true := by
    rw [show (PySem.W.clsIn K S).isSome = true from h2, h3]; rfl
  show (if (Value.ref B == Value.ref S) = true then some true else PySem.W.kitCls K (.ref B) (.ref S)) = some r
  rw [if_neg (by rw [h1]; exact Bool.false_ne_true)]
  show (if ((PySem.W.clsIn K S).isSome && PySem.W.typeIn K (.ref S) == some (.type "type")) = true then PySem.W.subIn K (.ref B) (.ref S) else none) = some r
  rw [if_pos e2]
  exact h4
theorem kdct_mk {w : World} {a : Addr} {x : Str} {v : V} {es : Array DictEntry} {n : Nat} {u : Value} (l : K.lookup a = some ⟨.type "dict", none, .dict es n, #[]⟩) (k : PySem.W.KeysLit w.params es.toList) (e : PySem.W.nsIn K a x = some (some u)) (r : RelV v u) : KDct K w a x v := ⟨es, n, u, l, k, e, r⟩
theorem oex_mk {C : Addr} {nm q : Str} {N : Addr} {bs bm : List Value} {sn : List Str} {sub : List Value} {ab : Bool} {col : Option Bool} {dd : Option Addr} {m0 m1 m2 m3 m5 : Option Value} (l : K.lookup C = some (excClassObj nm q C N bs bm true sn sub ab col dd m0 m1 m2 m3 m5 "ValueError.__new__")) (r : PySem.HandSPX.refsVE bm = true)
    (a : PySem.W.findIn K (.ref C) "__setattr__" = some (some (.builtin "object.__setattr__"))) (b : PySem.W.subIn K (.ref C) (.type "BaseException") = some true) (c : PySem.W.typeIn K (.ref C) = some (.type "type")) (d : PySem.W.keepIn K (.ref C) = true) : OexC K C := ⟨⟨nm, q, N, bs, bm, sn, sub, ab, col, dd, m0, m1, m2, m3, m5, l, r⟩, a, b, c, d⟩
theorem kit_self {B : Addr} (h1 : (Value.ref B == Value.ref B) = true) : PySem.W.kitOne K (.ref B) (.ref B) = some true := if_pos h1
theorem law_mk {f : Addr} {oc : Value} {od an : Option Addr} {sl : Array (Option Value)} {kV dc pm cd ct : Value} (X : K.In h) (G : h.Ns mainGlobals mg) (a : PySem.W.nsIn K mainGlobals "law" = some (some (.ref f)))
    (l : K.lookup f = some ⟨oc, od, .func (PySem.W.fnOf "law" "law" (defArgs sLaw) (defBody sLaw) (defScope sLaw) .none kV dc pm an cd ct), sl⟩) (c : PySem.W.codeIn K cd "law" = true) (k : PySem.W.keepIn K (.ref f) = true) :
    LawOk K mg ⟨f, PySem.W.fnOf "law" "law" (defArgs sLaw) (defBody sLaw) (defScope sLaw) .none kV dc pm an cd ct⟩ := ⟨fn_mk l c k, PySem.W.mg_of X G a, fun s v => .of_eq (bi69 kV dc pm an cd ct [v] rfl)⟩
end
/-- the addresses by number -/
def pick : List (Nat × Def) → Nat → Def
  | [], _ => ⟨0, default⟩
  | (k, d) :: r, n => if Nat.beq k n = true then d else pick r n

section
variable {w : World} {K : PySem.W.Frag} {h : Heap} {mg : Str → Option Value} {level kept broken search outside orders sides other : Addr} {e7 e8 e9 e16 e17 e18 e19 e20 e21 e22 e23 e24 e25 e26 e27 e28 e29 e30 e32 e33 e35 e39 e40 e41 e42 e43 e44 e45 e48 e49 e50 e51 e52 e54 e55 e56 e58 e59 e60 e61 e62 e63 e64 e65 e66 e67 e68 e340 e460 e470 e530 e341 e342 e343 e462 e463 e464 e472 e473 e531 e500 e69 : Def}
abbrev theAds (level kept broken search outside orders sides other : Addr) (e7 e8 e9 e16 e17 e18 e19 e20 e21 e22 e23 e24 e25 e26 e27 e28 e29 e30 e32 e33 e35 e39 e40 e41 e42 e43 e44 e45 e48 e49 e50 e51 e52 e54 e55 e56 e58 e59 e60 e61 e62 e63 e64 e65 e66 e67 e68 e340 e460 e470 e530 e341 e342 e343 e462 e463 e464 e472 e473 e531 e500 e69 : Def) : Ads := ⟨pick [(7, e7), (8, e8), (9, e9), (16, e16), (17, e17), (18, e18), (19, e19), (20, e20), (21, e21), (22, e22), (23, e23), (24, e24), (25, e25), (26, e26), (27, e27), (28, e28), (29, e29), (30, e30), (32, e32), (33, e33), (35, e35), (39, e39), (40, e40), (41, e41), (42, e42), (43, e43), (44, e44), (45, e45), (48, e48), (49, e49), (50, e50), (51, e51), (52, e52), (54, e54), (55, e55), (56, e56), (58, e58), (59, e59), (60, e60), (61, e61), (62, e62), (63, e63), (64, e64), (65, e65), (66, e66), (67, e67), (68, e68), (340, e340), (460, e460), (470, e470), (530, e530), (341, e341), (342, e342), (343, e343), (462, e462), (463, e463), (464, e464), (472, e472), (473, e473), (531, e531), (500, e500), (69, e69)], level, kept, broken, search, outside, orders, sides, other⟩
structure OutIn (K : PySem.W.Frag) (C : Addr) (d : Def) : Prop where
  oini : PySem.W.findIn K (.ref C) "__init__" = some (some (.ref d.f))
  ofun : PySem.W.typeIn K (.ref d.f) = some (.type "function")
  oF : Fn K "__init__" "Outside.__init__" sOutsideInit d.f d.fd
  oB : Binds K d.fd ["self", "why"] []
theorem out_mk {C f : Addr} {oc : Value} {od an : Option Addr} {sl : Array (Option Value)} {kV dc pm cd ct : Value} (a : PySem.W.findIn K (.ref C) "__init__" = some (some (.ref f))) (t : PySem.W.typeIn K (.ref f) = some (.type "function"))
    (l : K.lookup f = some ⟨oc, od, .func (PySem.W.fnOf "__init__" "Outside.__init__" (defArgs sOutsideInit) (defBody sOutsideInit) (defScope sOutsideInit) .none kV dc pm an cd ct), sl⟩) (c : PySem.W.codeIn K cd "Outside.__init__" = true) (k : PySem.W.keepIn K (.ref f) = true) :
    OutIn K C ⟨f, PySem.W.fnOf "__init__" "Outside.__init__" (defArgs sOutsideInit) (defBody sOutsideInit) (defScope sOutsideInit) .none kV dc pm an cd ct⟩ := ⟨a, t, fn_mk l c k, .all (bi500 kV dc pm an cd ct)⟩
theorem all_mk {l : PySem.W.OpenLaw} {fa : Addr} (X : K.In h) (G : h.Ns mainGlobals mg) (hfa : mg "law" = some (.ref fa))
    (z_isinstance : PySem.W.nsIn K mainGlobals "isinstance" = some none)
    (z_int : PySem.W.nsIn K mainGlobals "int" = some none)
    (z_bool : PySem.W.nsIn K mainGlobals "bool" = some none)
    (z_str : PySem.W.nsIn K mainGlobals "str" = some none)
    (z_tuple : PySem.W.nsIn K mainGlobals "tuple" = some none)
    (z_list : PySem.W.nsIn K mainGlobals "list" = some none)
    (z_dict : PySem.W.nsIn K mainGlobals "dict" = some none)
    (z_set : PySem.W.nsIn K mainGlobals "set" = some none)
    (z_len : PySem.W.nsIn K mainGlobals "len" = some none)
    (z_all : PySem.W.nsIn K mainGlobals "all" = some none)
    (z_any : PySem.W.nsIn K mainGlobals "any" = some none)
    (z_min : PySem.W.nsIn K mainGlobals "min" = some none)
    (z_max : PySem.W.nsIn K mainGlobals "max" = some none)
    (z_sorted : PySem.W.nsIn K mainGlobals "sorted" = some none)
    (z_zip : PySem.W.nsIn K mainGlobals "zip" = some none)
    (z_range : PySem.W.nsIn K mainGlobals "range" = some none)
    (z_enumerate : PySem.W.nsIn K mainGlobals "enumerate" = some none)
    (w7 : DefOk K mg "is_whole" sIsWhole ["thing"] e7)
    (w8 : DefOk K mg "is_sign" sIsSign ["thing"] e8)
    (w9 : DefOk K mg "check_signs" sCheckSigns ["row"] e9)
    (w16 : DefOk K mg "is_title" sIsTitle ["thing"] e16)
    (w17 : DefOk K mg "is_step" sIsStep ["thing"] e17)
    (w18 : DefOk K mg "is_call" sIsCall ["thing", "looms"] e18)
    (w19 : DefOk K mg "is_loom" sIsLoom ["thing", "looms"] e19)
    (w20 : DefOk K mg "check_looms" sCheckLooms ["looms"] e20)
    (w21 : DefOk K mg "check_name" sCheckName ["looms", "name"] e21)
    (w22 : DefOk K mg "relations" sRelations ["steps"] e22)
    (w23 : DefOk K mg "check_inside" sCheckInside ["looms"] e23)
    (w24 : DefOk K mg "order_pair" sOrderPair ["one", "other", "order"] e24)
    (w25 : DefOk K mg "stepped" sStepped ["step", "left", "right"] e25)
    (w26 : DefOk K mg "is_power" sIsPower ["number"] e26)
    (w27 : DefOk K mg "check_width" sCheckWidth ["row"] e27)
    (w28 : DefOk K mg "loomed" sLoomed ["looms", "name", "row"] e28)
    (w29 : DefOk K mg "done" sDone ["looms", "name", "row"] e29)
    (w30 : DefOk K mg "called" sCalled ["looms", "call", "row"] e30)
    (w32 : DefOk K mg "overlays" sOverlays ["left", "right"] e32)
    (w33 : DefOk K mg "splits" sSplits ["word"] e33)
    (w35 : DefOk K mg "levels" sLevels ["steps", "word"] e35)
    (w39 : DefOk K mg "is_sorted" sIsSorted ["word", "order"] e39)
    (w40 : DefOk K mg "is_word" sIsWord ["thing"] e40)
    (w41 : DefOk K mg "check_order" sCheckOrder ["order"] e41)
    (w42 : DefOk K mg "check_words" sCheckWords ["words"] e42)
    (w43 : DefOk K mg "node_of" sNodeOf ["call", "order", "word"] e43)
    (w44 : DefOk K mg "steps_of" sStepsOf ["looms", "node"] e44)
    (w45 : DefOk K mg "rows_for" sRowsFor ["loom", "order", "ways"] e45)
    (w48 : DefOk K mg "has_blocks" sHasBlocks ["row", "word"] e48)
    (w49 : DefOk K mg "check_blocks" sCheckBlocks ["looms", "name", "words", "order"] e49)
    (w50 : DefOk K mg "closed_from" sClosedFrom ["looms", "nodes"] e50)
    (w51 : DefOk K mg "row_at" sRowAt ["level", "lengths"] e51)
    (w52 : DefOk K mg "built" sBuilt ["path", "level", "half"] e52)
    (w54 : DefOk K mg "least_row" sLeastRow ["looms", "rows"] e54)
    (w55 : DefOk K mg "first_steps" sFirstSteps ["looms", "name", "words", "order"] e55)
    (w56 : DefOk K mg "judge_blocks" sJudgeBlocks ["looms", "name", "words", "order"] e56)
    (w58 : DefOk K mg "_law_cell_at" sLawCellAt ["_law_script", "_law_k"] e58)
    (w59 : DefOk K mg "_law_draw" sLawDraw ["_law_cell", "_law_k", "_law_bound"] e59)
    (w60 : DefOk K mg "_law_number" sLawNumber ["_law_cell", "_law_k", "_law_bound"] e60)
    (w61 : DefOk K mg "_law_next" sLawNext ["_law_draw_here", "_law_bound"] e61)
    (w62 : DefOk K mg "_law_pick" sLawPick ["_law_draw_here", "_law_things"] e62)
    (w63 : DefOk K mg "_law_says" sLawSays ["_law_told", "_law_due"] e63)
    (w64 : DefOk K mg "_law_step" sLawStep ["_law_draw_here"] e64)
    (w65 : DefOk K mg "_law_loom" sLawLoom ["_law_draw_here", "_law_names"] e65)
    (w66 : DefOk K mg "_law_halves" sLawHalves ["_law_step_here", "_law_left", "_law_right"] e66)
    (w67 : DefOk K mg "_law_done" sLawDone ["_law_looms", "_law_name", "_law_row"] e67)
    (w68 : DefOk K mg "_law_spread" sLawSpread ["_law_word", "_law_width"] e68)
    (w340 : IniOk K mg level "Level" "Level.__init__" sLevelInit ["self", "steps", "halves", "way"] e340)
    (w460 : IniOk K mg kept "Kept" "Kept.__init__" sKeptInit ["self", "nodes"] e460)
    (w470 : IniOk K mg broken "Broken" "Broken.__init__" sBrokenInit ["self", "row"] e470)
    (w530 : IniOk K mg search "Search" "Search.__init__" sSearchInit ["self", "looms"] e530)
    (w341 : MetOk K level "step" "Level.step" sLevelStep ["self", "step"] e341)
    (w342 : MetOk K level "half" "Level.half" sLevelHalf ["self", "side"] e342)
    (w343 : MetOk K level "is_bad" "Level.is_bad" sLevelIsBad ["self", "order"] e343)
    (w462 : MetOk K kept "__bool__" "Kept.__bool__" sKeptBool ["self"] e462)
    (w463 : MetOk K kept "is_closed" "Kept.is_closed" sKeptIsClosed ["self", "looms", "rows"] e463)
    (w464 : MetOk K kept "shows" "Kept.shows" sKeptShows ["self", "looms", "name", "words", "order"] e464)
    (w472 : MetOk K broken "__bool__" "Broken.__bool__" sBrokenBool ["self"] e472)
    (w473 : MetOk K broken "shows" "Broken.shows" sBrokenShows ["self", "looms", "name", "words", "order"] e473)
    (w531 : MetOk K search "found" "Search.found" sSearchFound ["self", "rows", "size"] e531)
    (levelC : Cls K level)
    (keptC : Cls K kept)
    (brokenC : Cls K broken)
    (searchC : Cls K search)
    (nl_halves : NoAttr K level "halves")
    (nl_way : NoAttr K level "way")
    (nl_is_same : NoAttr K level "is_same")
    (nl_left : NoAttr K level "left")
    (nl_right : NoAttr K level "right")
    (nl_turned : NoAttr K level "turned")
    (keptN : NoAttr K kept "nodes")
    (brokenN : NoAttr K broken "row")
    (searchN : NoAttr K search "looms")
    (ordersM : PySem.W.nsIn K mainGlobals "ORDERS" = some (some (.ref orders)))
    (ordersT : ∀ H, SqT K H orders [.str "up", .str "down"])
    (sidesM : PySem.W.nsIn K mainGlobals "SIDES" = some (some (.ref sides)))
    (sidesT : ∀ H, SqT K H sides [.str "left", .str "right", .str "both", .str "all"])
    (otherM : PySem.W.nsIn K mainGlobals "OTHER" = some (some (.ref other)))
    (mostLooms : ∃ t, PySem.W.nsIn K mainGlobals "MOST_LOOMS" = some (some (.int 8 t)))
    (mostSteps : ∃ t, PySem.W.nsIn K mainGlobals "MOST_STEPS" = some (some (.int 12 t)))
    (mostPieces : ∃ t, PySem.W.nsIn K mainGlobals "MOST_PIECES" = some (some (.int 6 t)))
    (letters : ∃ t, PySem.W.nsIn K mainGlobals "LETTERS" = some (some (.str "abcdefghijklmnopqrstuvwxyz" t)))
    (outsideM : PySem.W.nsIn K mainGlobals "Outside" = some (some (.ref outside)))
    (oup : KDct K w other "up" (.str "down"))
    (odn : KDct K w other "down" (.str "up"))
    (oex : OexC K outside)
    (oxf : XfC K outside)
    (owhy : PySem.W.findIn K (.ref outside) "why" = some none)
    (oIn : OutIn K outside e500)
    (keptI : IsiC K kept)
    (brokenI : IsiC K broken)
    (kk : PySem.W.kitOne K (.ref kept) (.ref kept) = some true)
    (bk : PySem.W.kitOne K (.ref broken) (.ref kept) = some false)
    (oo : PySem.W.exmOne K (.ref outside) (.ref outside) = some true)
    (w69 : LawOk K mg e69)
    : ∃ fd : FuncData, (∀ (s : Shared) (v : Value), BindsTo s fd ⟨[v], []⟩ [("_law_script", v)]) ∧ ∀ base : Heap, K.In base → base.Ns mainGlobals mg → FnOk l.prog w K mg base CX0 60 fa fd ["_law_script"] (spLaw K) := by
  have T : Txt K mg (theAds level kept broken search outside orders sides other e7 e8 e9 e16 e17 e18 e19 e20 e21 e22 e23 e24 e25 e26 e27 e28 e29 e30 e32 e33 e35 e39 e40 e41 e42 e43 e44 e45 e48 e49 e50 e51 e52 e54 e55 e56 e58 e59 e60 e61 e62 e63 e64 e65 e66 e67 e68 e340 e460 e470 e530 e341 e342 e343 e462 e463 e464 e472 e473 e531 e500 e69) :=
    { isinstance := PySem.W.mg_none_of X G z_isinstance
      int := PySem.W.mg_none_of X G z_int
      bool := PySem.W.mg_none_of X G z_bool
      str := PySem.W.mg_none_of X G z_str
      tuple := PySem.W.mg_none_of X G z_tuple
      list := PySem.W.mg_none_of X G z_list
      dict := PySem.W.mg_none_of X G z_dict
      set := PySem.W.mg_none_of X G z_set
      len := PySem.W.mg_none_of X G z_len
      all := PySem.W.mg_none_of X G z_all
      any := PySem.W.mg_none_of X G z_any
      min := PySem.W.mg_none_of X G z_min
      max := PySem.W.mg_none_of X G z_max
      sorted := PySem.W.mg_none_of X G z_sorted
      zip := PySem.W.mg_none_of X G z_zip
      range := PySem.W.mg_none_of X G z_range
      enumerate := PySem.W.mg_none_of X G z_enumerate
      w7 := w7
      w8 := w8
      w9 := w9
      w16 := w16
      w17 := w17
      w18 := w18
      w19 := w19
      w20 := w20
      w21 := w21
      w22 := w22
      w23 := w23
      w24 := w24
      w25 := w25
      w26 := w26
      w27 := w27
      w28 := w28
      w29 := w29
      w30 := w30
      w32 := w32
      w33 := w33
      w35 := w35
      w39 := w39
      w40 := w40
      w41 := w41
      w42 := w42
      w43 := w43
      w44 := w44
      w45 := w45
      w48 := w48
      w49 := w49
      w50 := w50
      w51 := w51
      w52 := w52
      w54 := w54
      w55 := w55
      w56 := w56
      w58 := w58
      w59 := w59
      w60 := w60
      w61 := w61
      w62 := w62
      w63 := w63
      w64 := w64
      w65 := w65
      w66 := w66
      w67 := w67
      w68 := w68
      w340 := w340
      w460 := w460
      w470 := w470
      w530 := w530
      w341 := w341
      w342 := w342
      w343 := w343
      w462 := w462
      w463 := w463
      w464 := w464
      w472 := w472
      w473 := w473
      w531 := w531
      levelC := levelC
      keptC := keptC
      brokenC := brokenC
      searchC := searchC
      keptN := keptN
      brokenN := brokenN
      searchN := searchN
      ordersM := PySem.W.mg_of X G ordersM
      ordersT := ordersT
      sidesM := PySem.W.mg_of X G sidesM
      sidesT := sidesT
      otherM := PySem.W.mg_of X G otherM
      mostLooms := mostLooms.imp fun _ z => PySem.W.mg_of X G z
      mostSteps := mostSteps.imp fun _ z => PySem.W.mg_of X G z
      mostPieces := mostPieces.imp fun _ z => PySem.W.mg_of X G z
      letters := letters.imp fun _ z => PySem.W.mg_of X G z
      levelN := fun f hf => by
        simp only [levelF, List.mem_cons, List.not_mem_nil, or_false] at hf
        rcases hf with rfl | rfl | rfl | rfl | rfl | rfl
        · exact nl_halves
        · exact nl_way
        · exact nl_is_same
        · exact nl_left
        · exact nl_right
        · exact nl_turned }
  have UU : Txu w K mg (theAds level kept broken search outside orders sides other e7 e8 e9 e16 e17 e18 e19 e20 e21 e22 e23 e24 e25 e26 e27 e28 e29 e30 e32 e33 e35 e39 e40 e41 e42 e43 e44 e45 e48 e49 e50 e51 e52 e54 e55 e56 e58 e59 e60 e61 e62 e63 e64 e65 e66 e67 e68 e340 e460 e470 e530 e341 e342 e343 e462 e463 e464 e472 e473 e531 e500 e69) :=
    { T := T, oup := oup, odn := odn, oex := oex, oxf := oxf, owhy := owhy, oini := oIn.oini, ofun := oIn.ofun, oF := oIn.oF, oB := oIn.oB, oM := PySem.W.mg_of X G outsideM }
  have VV : Txv w K mg (theAds level kept broken search outside orders sides other e7 e8 e9 e16 e17 e18 e19 e20 e21 e22 e23 e24 e25 e26 e27 e28 e29 e30 e32 e33 e35 e39 e40 e41 e42 e43 e44 e45 e48 e49 e50 e51 e52 e54 e55 e56 e58 e59 e60 e61 e62 e63 e64 e65 e66 e67 e68 e340 e460 e470 e530 e341 e342 e343 e462 e463 e464 e472 e473 e531 e500 e69) := ⟨UU, w69.F, keptI, brokenI, kk, bk, oo⟩
  have e := hfa.symm.trans w69.m
  cases e
  exact ⟨e69.fd, w69.B, fun base _ _ => ok_law VV⟩
end
end K6
open PySem PySem.W PyProof.Rows
set_option Elab.async false
set_option maxRecDepth 100000 in
set_option maxHeartbeats 0 in
open_top head_k06 for PySem.Challenge.rw_strandloom_k06_whole_blocks
set_option Elab.async false
set_option maxRecDepth 100000
namespace K6
open PySem PySem.Spec PyProof.Rows L2
theorem walk {l : PySem.W.OpenLaw} {q : Program} {loose : List Str} {XP : (Str → Option Value) → Heap → Prop} {YP : World → Heap → Prop} {d : DefRec} {K : Params → PySem.W.Frag} (hn : l.most = some 63) (hdf : d.params.defaults = [])
    (hY : ∀ (w : World) (h : Heap), YP w h → (K w.params).In h)
    (F : ∀ (w : World) (mg : Str → Option Value) (fa : Addr) (h : Heap), (K w.params).In h → h.Ns mainGlobals mg → mg d.name = some (.ref fa) →
      ∃ fd : FuncData, (∀ (s : Shared) (u : Value), BindsTo s fd ⟨[u], []⟩ [("_law_script", u)]) ∧ ∀ base : Heap, (K w.params).In base → base.Ns mainGlobals mg → FnOk l.prog w (K w.params) mg base CX0 60 fa fd ["_law_script"] (spLaw (K w.params))) :
    PySem.W.WalkO q loose XP YP l.row.toRowW d [] (fun f vs => PySem.call f vs) :=
  L2.walk_of (n := 63) (k := 60) (x := "_law_script") (CX := fun _ => CX0) (sp := fun w => spLaw (K w.params)) hn (by decide) hdf ⟨rfl, by decide, by decide⟩ hY F (fun _ _ a ns hl _ hS => ⟨a, ns, rfl, hS, hl, fun _ => rfl⟩) fun _ _ _ _ _ z => z
end K6
open PySem PySem.W PyProof.Rows L2 K6
set_option maxRecDepth 100000 in
set_option maxHeartbeats 0 in
theorem PySem.Challenge.cw_strandloom_k06_whole_blocks_holds : PySem.Challenge.rw_strandloom_k06_whole_blocks.Holds := by
  refine head_k06 ?_
  k_fill
  refine K6.walk (l := PySem.Challenge.rw_strandloom_k06_whole_blocks) rfl rfl (fun w h Y => PySem.W.kIn_of Y) ?F
  case F =>
    intro w mg fa h KX G hmg0
    have hmg : mg "law" = some (.ref fa) := hmg0
    clear hmg0
    refine' K6.all_mk KX G hmg ?h_z_isinstance ?h_z_int ?h_z_bool ?h_z_str ?h_z_tuple ?h_z_list ?h_z_dict ?h_z_set ?h_z_len ?h_z_all ?h_z_any ?h_z_min ?h_z_max ?h_z_sorted ?h_z_zip ?h_z_range ?h_z_enumerate ?h_w7 ?h_w8 ?h_w9 ?h_w16 ?h_w17 ?h_w18 ?h_w19 ?h_w20 ?h_w21 ?h_w22 ?h_w23 ?h_w24 ?h_w25 ?h_w26 ?h_w27 ?h_w28 ?h_w29 ?h_w30 ?h_w32 ?h_w33 ?h_w35 ?h_w39 ?h_w40 ?h_w41 ?h_w42 ?h_w43 ?h_w44 ?h_w45 ?h_w48 ?h_w49 ?h_w50 ?h_w51 ?h_w52 ?h_w54 ?h_w55 ?h_w56 ?h_w58 ?h_w59 ?h_w60 ?h_w61 ?h_w62 ?h_w63 ?h_w64 ?h_w65 ?h_w66 ?h_w67 ?h_w68 ?h_w340 ?h_w460 ?h_w470 ?h_w530 ?h_w341 ?h_w342 ?h_w343 ?h_w462 ?h_w463 ?h_w464 ?h_w472 ?h_w473 ?h_w531 ?h_levelC ?h_keptC ?h_brokenC ?h_searchC ?h_nl_halves ?h_nl_way ?h_nl_is_same ?h_nl_left ?h_nl_right ?h_nl_turned ?h_keptN ?h_brokenN ?h_searchN ?h_ordersM ?h_ordersT ?h_sidesM ?h_sidesT ?h_otherM ?h_mostLooms ?h_mostSteps ?h_mostPieces ?h_letters ?h_outsideM ?h_oup ?h_odn ?h_oex ?h_oxf ?h_owhy ?h_oIn ?h_keptI ?h_brokenI ?h_kk ?h_bk ?h_oo ?h_w69
    (case h_w340 => refine' ini_mk KX G bi340 ?n ?a ?l ?c ?k ?i ?m ?kc; (case n => k_is); (case a => k_is); (case l => k_is); (case c => k_is); (case k => k_is); (case i => k_is); (case m => k_is); (case kc => k_is))
    (case h_w460 => refine' ini_mk KX G bi460 ?n ?a ?l ?c ?k ?i ?m ?kc; (case n => k_is); (case a => k_is); (case l => k_is); (case c => k_is); (case k => k_is); (case i => k_is); (case m => k_is); (case kc => k_is))
    (case h_w470 => refine' ini_mk KX G bi470 ?n ?a ?l ?c ?k ?i ?m ?kc; (case n => k_is); (case a => k_is); (case l => k_is); (case c => k_is); (case k => k_is); (case i => k_is); (case m => k_is); (case kc => k_is))
    (case h_w530 => refine' ini_mk KX G bi530 ?n ?a ?l ?c ?k ?i ?m ?kc; (case n => k_is); (case a => k_is); (case l => k_is); (case c => k_is); (case k => k_is); (case i => k_is); (case m => k_is); (case kc => k_is))
    (case h_ordersM => k_is)
    (case h_sidesM => k_is)
    (case h_otherM => k_is)
    (case h_outsideM => k_is)
    (case h_z_isinstance => k_is)
    (case h_z_int => k_is)
    (case h_z_bool => k_is)
    (case h_z_str => k_is)
    (case h_z_tuple => k_is)
    (case h_z_list => k_is)
    (case h_z_dict => k_is)
    (case h_z_set => k_is)
    (case h_z_len => k_is)
    (case h_z_all => k_is)
    (case h_z_any => k_is)
    (case h_z_min => k_is)
    (case h_z_max => k_is)
    (case h_z_sorted => k_is)
    (case h_z_zip => k_is)
    (case h_z_range => k_is)
    (case h_z_enumerate => k_is)
    (case h_w7 => refine' def_mk KX G bi7 ?a ?l ?c ?k; (case a => k_is); (case l => k_is); (case c => k_is); (case k => k_is))
    (case h_w8 => refine' def_mk KX G bi8 ?a ?l ?c ?k; (case a => k_is); (case l => k_is); (case c => k_is); (case k => k_is))
    (case h_w9 => refine' def_mk KX G bi9 ?a ?l ?c ?k; (case a => k_is); (case l => k_is); (case c => k_is); (case k => k_is))
    (case h_w16 => refine' def_mk KX G bi16 ?a ?l ?c ?k; (case a => k_is); (case l => k_is); (case c => k_is); (case k => k_is))
    (case h_w17 => refine' def_mk KX G bi17 ?a ?l ?c ?k; (case a => k_is); (case l => k_is); (case c => k_is); (case k => k_is))
    (case h_w18 => refine' def_mk KX G bi18 ?a ?l ?c ?k; (case a => k_is); (case l => k_is); (case c => k_is); (case k => k_is))
    (case h_w19 => refine' def_mk KX G bi19 ?a ?l ?c ?k; (case a => k_is); (case l => k_is); (case c => k_is); (case k => k_is))
    (case h_w20 => refine' def_mk KX G bi20 ?a ?l ?c ?k; (case a => k_is); (case l => k_is); (case c => k_is); (case k => k_is))
    (case h_w21 => refine' def_mk KX G bi21 ?a ?l ?c ?k; (case a => k_is); (case l => k_is); (case c => k_is); (case k => k_is))
    (case h_w22 => refine' def_mk KX G bi22 ?a ?l ?c ?k; (case a => k_is); (case l => k_is); (case c => k_is); (case k => k_is))
    (case h_w23 => refine' def_mk KX G bi23 ?a ?l ?c ?k; (case a => k_is); (case l => k_is); (case c => k_is); (case k => k_is))
    (case h_w24 => refine' def_mk KX G bi24 ?a ?l ?c ?k; (case a => k_is); (case l => k_is); (case c => k_is); (case k => k_is))
    (case h_w25 => refine' def_mk KX G bi25 ?a ?l ?c ?k; (case a => k_is); (case l => k_is); (case c => k_is); (case k => k_is))
    (case h_w26 => refine' def_mk KX G bi26 ?a ?l ?c ?k; (case a => k_is); (case l => k_is); (case c => k_is); (case k => k_is))
    (case h_w27 => refine' def_mk KX G bi27 ?a ?l ?c ?k; (case a => k_is); (case l => k_is); (case c => k_is); (case k => k_is))
    (case h_w28 => refine' def_mk KX G bi28 ?a ?l ?c ?k; (case a => k_is); (case l => k_is); (case c => k_is); (case k => k_is))
    (case h_w29 => refine' def_mk KX G bi29 ?a ?l ?c ?k; (case a => k_is); (case l => k_is); (case c => k_is); (case k => k_is))
    (case h_w30 => refine' def_mk KX G bi30 ?a ?l ?c ?k; (case a => k_is); (case l => k_is); (case c => k_is); (case k => k_is))
    (case h_w32 => refine' def_mk KX G bi32 ?a ?l ?c ?k; (case a => k_is); (case l => k_is); (case c => k_is); (case k => k_is))
    (case h_w33 => refine' def_mk KX G bi33 ?a ?l ?c ?k; (case a => k_is); (case l => k_is); (case c => k_is); (case k => k_is))
    (case h_w35 => refine' def_mk KX G bi35 ?a ?l ?c ?k; (case a => k_is); (case l => k_is); (case c => k_is); (case k => k_is))
    (case h_w39 => refine' def_mk KX G bi39 ?a ?l ?c ?k; (case a => k_is); (case l => k_is); (case c => k_is); (case k => k_is))
    (case h_w40 => refine' def_mk KX G bi40 ?a ?l ?c ?k; (case a => k_is); (case l => k_is); (case c => k_is); (case k => k_is))
    (case h_w41 => refine' def_mk KX G bi41 ?a ?l ?c ?k; (case a => k_is); (case l => k_is); (case c => k_is); (case k => k_is))
    (case h_w42 => refine' def_mk KX G bi42 ?a ?l ?c ?k; (case a => k_is); (case l => k_is); (case c => k_is); (case k => k_is))
    (case h_w43 => refine' def_mk KX G bi43 ?a ?l ?c ?k; (case a => k_is); (case l => k_is); (case c => k_is); (case k => k_is))
    (case h_w44 => refine' def_mk KX G bi44 ?a ?l ?c ?k; (case a => k_is); (case l => k_is); (case c => k_is); (case k => k_is))
    (case h_w45 => refine' def_mk KX G bi45 ?a ?l ?c ?k; (case a => k_is); (case l => k_is); (case c => k_is); (case k => k_is))
    (case h_w48 => refine' def_mk KX G bi48 ?a ?l ?c ?k; (case a => k_is); (case l => k_is); (case c => k_is); (case k => k_is))
    (case h_w49 => refine' def_mk KX G bi49 ?a ?l ?c ?k; (case a => k_is); (case l => k_is); (case c => k_is); (case k => k_is))
    (case h_w50 => refine' def_mk KX G bi50 ?a ?l ?c ?k; (case a => k_is); (case l => k_is); (case c => k_is); (case k => k_is))
    (case h_w51 => refine' def_mk KX G bi51 ?a ?l ?c ?k; (case a => k_is); (case l => k_is); (case c => k_is); (case k => k_is))
    (case h_w52 => refine' def_mk KX G bi52 ?a ?l ?c ?k; (case a => k_is); (case l => k_is); (case c => k_is); (case k => k_is))
    (case h_w54 => refine' def_mk KX G bi54 ?a ?l ?c ?k; (case a => k_is); (case l => k_is); (case c => k_is); (case k => k_is))
    (case h_w55 => refine' def_mk KX G bi55 ?a ?l ?c ?k; (case a => k_is); (case l => k_is); (case c => k_is); (case k => k_is))
    (case h_w56 => refine' def_mkD KX G bi56 ?a ?l ?t ?c ?k; (case a => k_is); (case l => k_is); (case t => k_is); (case c => k_is); (case k => k_is))
    (case h_w58 => refine' def_mk KX G bi58 ?a ?l ?c ?k; (case a => k_is); (case l => k_is); (case c => k_is); (case k => k_is))
    (case h_w59 => refine' def_mk KX G bi59 ?a ?l ?c ?k; (case a => k_is); (case l => k_is); (case c => k_is); (case k => k_is))
    (case h_w60 => refine' def_mk KX G bi60 ?a ?l ?c ?k; (case a => k_is); (case l => k_is); (case c => k_is); (case k => k_is))
    (case h_w61 => refine' def_mk KX G bi61 ?a ?l ?c ?k; (case a => k_is); (case l => k_is); (case c => k_is); (case k => k_is))
    (case h_w62 => refine' def_mk KX G bi62 ?a ?l ?c ?k; (case a => k_is); (case l => k_is); (case c => k_is); (case k => k_is))
    (case h_w63 => refine' def_mk KX G bi63 ?a ?l ?c ?k; (case a => k_is); (case l => k_is); (case c => k_is); (case k => k_is))
    (case h_w64 => refine' def_mk KX G bi64 ?a ?l ?c ?k; (case a => k_is); (case l => k_is); (case c => k_is); (case k => k_is))
    (case h_w65 => refine' def_mk KX G bi65 ?a ?l ?c ?k; (case a => k_is); (case l => k_is); (case c => k_is); (case k => k_is))
    (case h_w66 => refine' def_mk KX G bi66 ?a ?l ?c ?k; (case a => k_is); (case l => k_is); (case c => k_is); (case k => k_is))
    (case h_w67 => refine' def_mk KX G bi67 ?a ?l ?c ?k; (case a => k_is); (case l => k_is); (case c => k_is); (case k => k_is))
    (case h_w68 => refine' def_mk KX G bi68 ?a ?l ?c ?k; (case a => k_is); (case l => k_is); (case c => k_is); (case k => k_is))
    (case h_w341 => refine' met_mk bi341 ?a ?l ?c ?k ?i; (case a => k_is); (case l => k_is); (case c => k_is); (case k => k_is); (case i => k_is))
    (case h_w342 => refine' met_mk bi342 ?a ?l ?c ?k ?i; (case a => k_is); (case l => k_is); (case c => k_is); (case k => k_is); (case i => k_is))
    (case h_w343 => refine' met_mk bi343 ?a ?l ?c ?k ?i; (case a => k_is); (case l => k_is); (case c => k_is); (case k => k_is); (case i => k_is))
    (case h_w462 => refine' met_mk bi462 ?a ?l ?c ?k ?i; (case a => k_is); (case l => k_is); (case c => k_is); (case k => k_is); (case i => k_is))
    (case h_w463 => refine' met_mk bi463 ?a ?l ?c ?k ?i; (case a => k_is); (case l => k_is); (case c => k_is); (case k => k_is); (case i => k_is))
    (case h_w464 => refine' met_mkD bi464 ?a ?l ?t ?c ?k ?i; (case a => k_is); (case l => k_is); (case t => k_is); (case c => k_is); (case k => k_is); (case i => k_is))
    (case h_w472 => refine' met_mk bi472 ?a ?l ?c ?k ?i; (case a => k_is); (case l => k_is); (case c => k_is); (case k => k_is); (case i => k_is))
    (case h_w473 => refine' met_mkD bi473 ?a ?l ?t ?c ?k ?i; (case a => k_is); (case l => k_is); (case t => k_is); (case c => k_is); (case k => k_is); (case i => k_is))
    (case h_w531 => refine' met_mk bi531 ?a ?l ?c ?k ?i; (case a => k_is); (case l => k_is); (case c => k_is); (case k => k_is); (case i => k_is))
    (case h_levelC => refine' ⟨?a, ?b, ?c, ?d⟩; (case a => k_is); (case b => k_is); (case c => k_is); (case d => k_is))
    (case h_keptC => refine' ⟨?a, ?b, ?c, ?d⟩; (case a => k_is); (case b => k_is); (case c => k_is); (case d => k_is))
    (case h_brokenC => refine' ⟨?a, ?b, ?c, ?d⟩; (case a => k_is); (case b => k_is); (case c => k_is); (case d => k_is))
    (case h_searchC => refine' ⟨?a, ?b, ?c, ?d⟩; (case a => k_is); (case b => k_is); (case c => k_is); (case d => k_is))
    (case h_nl_halves => show PySem.W.findIn _ _ _ = _; k_is)
    (case h_nl_way => show PySem.W.findIn _ _ _ = _; k_is)
    (case h_nl_is_same => show PySem.W.findIn _ _ _ = _; k_is)
    (case h_nl_left => show PySem.W.findIn _ _ _ = _; k_is)
    (case h_nl_right => show PySem.W.findIn _ _ _ = _; k_is)
    (case h_nl_turned => show PySem.W.findIn _ _ _ = _; k_is)
    (case h_keptN => show PySem.W.findIn _ _ _ = _; k_is)
    (case h_brokenN => show PySem.W.findIn _ _ _ = _; k_is)
    (case h_searchN => show PySem.W.findIn _ _ _ = _; k_is)
    (case h_ordersT => exact fun H => .inr ⟨_, _, _, by k_is, rfl, rfl, by decide, by first | exact .cons ⟨_, rfl⟩ (.cons ⟨_, rfl⟩ .nil)⟩)
    (case h_sidesT => exact fun H => .inr ⟨_, _, _, by k_is, rfl, rfl, by decide, .cons ⟨_, rfl⟩ (.cons ⟨_, rfl⟩ (.cons ⟨_, rfl⟩ (.cons ⟨_, rfl⟩ .nil)))⟩)
    (case h_mostLooms => exact ⟨_, by k_is⟩)
    (case h_mostSteps => exact ⟨_, by k_is⟩)
    (case h_mostPieces => exact ⟨_, by k_is⟩)
    (case h_letters => exact ⟨_, by k_is⟩)
    (case h_oup => refine' K6.kdct_mk ?l ?k ?e ?r; (case l => k_is); (case k => k_keys); (case e => k_is); (case r => exact ⟨_, rfl⟩))
    (case h_odn => refine' K6.kdct_mk ?l ?k ?e ?r; (case l => k_is); (case k => k_keys); (case e => k_is); (case r => exact ⟨_, rfl⟩))
    (case h_oex => refine' K6.oex_mk ?l ?r ?a ?b ?c ?d; (case l => k_is); (case r => decide +kernel); (case a => k_is); (case b => k_is); (case c => k_is); (case d => k_is))
    (case h_oxf => refine' ⟨?a, ?b, ?c, ?d⟩; (case a => k_is); (case b => k_is); (case c => k_is); (case d => k_is))
    (case h_owhy => k_is)
    (case h_oIn => refine' out_mk ?a ?t ?l ?c ?k; (case a => k_is); (case t => k_is); (case l => k_is); (case c => k_is); (case k => k_is))
    (case h_keptI => refine' ⟨?a, ?b, ?c, ?d⟩; (case a => k_is); (case b => k_is); (case c => k_is); (case d => k_is))
    (case h_brokenI => refine' ⟨?a, ?b, ?c, ?d⟩; (case a => k_is); (case b => k_is); (case c => k_is); (case d => k_is))
    (case h_kk => first | k_is | exact K6.kit_self (by decide) | exact K6.kit_self rfl)
    (case h_bk => first | k_is | (refine' K6.kit_two ?a ?b ?c ?d; (case a => first | decide | rfl); (case b => k_is); (case c => k_is); (case d => k_is)))
    (case h_oo => refine' exm_one ?a ?b ?c ?d; (case a => k_is); (case b => k_is); (case c => k_is); (case d => first | rfl | k_is))
    (case h_w69 => refine' law_mk KX G ?a ?l ?c ?k; (case a => k_is); (case l => k_is); (case c => k_is); (case k => k_is))
