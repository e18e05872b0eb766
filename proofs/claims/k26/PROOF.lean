import PyProof.Rows.All
import Wide.All
import OpenK.AllK
import Wide.FinOn
import HandS.ForMost
import HandS.Wide
import HandS.Zip
import HandS.Walk
import HandS.IsInst
import HandS.Exc
import PySem.Challenge.RW_sheetproofs_k26_whole_ranks_weights_and
import PyProof.Draws
import HandS.ExcInit
import HandS.ExcIs
import HandS.ForExc
import HandS.ExcCtx
import PyProof.ReprRoads
import HandS.HotCalls
import HandS.Defaults
/-! ## MathA -/
section
/-! Linear algebra in plain Lean: rows as functions Nat → α. -/
namespace M26
class Fl (α : Type) extends Lean.Grind.CommRing α where
  inv : α → α
  mul_inv : ∀ a : α, a ≠ 0 → a * inv a = 1
  one_ne : (1 : α) ≠ 0
  dec : DecidableEq α
instance instDecFl {α : Type} [Fl α] : DecidableEq α := Fl.dec
section
variable {α : Type} [Fl α]
abbrev Vc (α : Type) := Nat → α
/-- the sum of the rows with the weights -/
def lc : List α → List (Vc α) → Vc α
  | w :: ws, v :: vs => fun i => w * v i + lc ws vs i
  | _, _ => fun _ => 0
theorem lc_nil_l (vs : List (Vc α)) (i : Nat) : lc ([] : List α) vs i = 0 := by cases vs <;> rfl
theorem lc_nil_r (ws : List α) (i : Nat) : lc ws ([] : List (Vc α)) i = 0 := by cases ws <;> rfl
theorem lc_cons (w : α) (ws : List α) (v : Vc α) (vs : List (Vc α)) (i : Nat) : lc (w :: ws) (v :: vs) i = w * v i + lc ws vs i := rfl
theorem lc_append : ∀ {w1 w2 : List α} {v1 v2 : List (Vc α)} (i : Nat), w1.length = v1.length → lc (w1 ++ w2) (v1 ++ v2) i = lc w1 v1 i + lc w2 v2 i
  | [], w2, [], v2, i, _ => by
    show lc w2 v2 i = (0 : α) + lc w2 v2 i
    grind
  | w :: w1, w2, v :: v1, v2, i, h => by
    have ih := lc_append (w1 := w1) (w2 := w2) (v1 := v1) (v2 := v2) i (by simpa using h)
    show w * v i + lc (w1 ++ w2) (v1 ++ v2) i = (w * v i + lc w1 v1 i) + lc w2 v2 i
    rw [ih]; grind
/-- the span of a list of rows -/
inductive Sp (vs : List (Vc α)) : Vc α → Prop
  | zero : Sp vs (fun _ => 0)
  | add {v x : Vc α} (w : α) (hv : v ∈ vs) (hx : Sp vs x) : Sp vs (fun i => w * v i + x i)
theorem Sp.of_eq {vs : List (Vc α)} {x y : Vc α} (h : Sp vs x) (e : ∀ i, x i = y i) : Sp vs y := by
  have : x = y := funext e
  rw [← this]; exact h
theorem Sp.mem {vs : List (Vc α)} {v : Vc α} (h : v ∈ vs) : Sp vs v := (Sp.add 1 h .zero).of_eq fun i => by grind
theorem Sp.plus {vs : List (Vc α)} {x y : Vc α} (hx : Sp vs x) (hy : Sp vs y) : Sp vs (fun i => x i + y i) := by
  induction hx with
  | zero => exact hy.of_eq fun i => by grind
  | add w hv _ ih => exact (Sp.add w hv ih).of_eq fun i => by grind
theorem Sp.smul {vs : List (Vc α)} {x : Vc α} (a : α) (hx : Sp vs x) : Sp vs (fun i => a * x i) := by
  induction hx with
  | zero => exact Sp.zero.of_eq fun i => by grind
  | add w hv _ ih => exact (Sp.add (a * w) hv ih).of_eq fun i => by grind
/-- x plus a times y -/
theorem Sp.axpy {vs : List (Vc α)} {x y : Vc α} (a : α) (hx : Sp vs x) (hy : Sp vs y) : Sp vs (fun i => x i + a * y i) := hx.plus (hy.smul a)
theorem Sp.trans {us vs : List (Vc α)} (h : ∀ v ∈ vs, Sp us v) {x : Vc α} (hx : Sp vs x) : Sp us x := by
  induction hx with
  | zero => exact .zero
  | add w hv _ ih => exact ((h _ hv).smul w).plus ih
theorem Sp.mono {us vs : List (Vc α)} (h : ∀ v ∈ vs, v ∈ us) {x : Vc α} (hx : Sp vs x) : Sp us x := hx.trans fun v hv => .mem (h v hv)
theorem Sp.lc {vs : List (Vc α)} : ∀ (ws : List α) (us : List (Vc α)), (∀ u ∈ us, Sp vs u) → Sp vs (M26.lc ws us)
  | [], us, _ => Sp.zero.of_eq fun i => (lc_nil_l us i).symm
  | _ :: _, [], _ => Sp.zero.of_eq fun i => (lc_nil_r _ i).symm
  | w :: ws, u :: us, h => ((h u List.mem_cons_self).smul w).plus (Sp.lc ws us fun x hx => h x (List.mem_cons_of_mem _ hx))
/-- a member of the span of v :: vs, less a multiple of v, is in the span of vs -/
theorem Sp.split {v : Vc α} {vs : List (Vc α)} {x : Vc α} (h : Sp (v :: vs) x) : ∃ a : α, Sp vs (fun i => x i + a * v i) := by
  induction h with
  | zero => exact ⟨0, Sp.zero.of_eq fun i => by grind⟩
  | add w hv _ ih =>
    obtain ⟨a, ha⟩ := ih
    rcases List.mem_cons.mp hv with e | hv
    · subst e
      exact ⟨a - w, ha.of_eq fun i => by grind⟩
    · exact ⟨a, (Sp.add w hv ha).of_eq fun i => by grind⟩
/-- unbound rows -/
def Ind (vs : List (Vc α)) : Prop := ∀ ws : List α, ws.length = vs.length → (∀ i, lc ws vs i = 0) → ∀ w ∈ ws, w = 0
theorem lc_zero {vs : List (Vc α)} : ∀ {ws : List α} (i : Nat), (∀ w ∈ ws, w = 0) → lc ws vs i = 0 := by
  induction vs with
  | nil => intro ws i _; exact lc_nil_r ws i
  | cons v vs ih =>
    intro ws i h
    cases ws with
    | nil => rfl
    | cons w ws =>
      rw [lc_cons, ih i fun x hx => h x (List.mem_cons_of_mem _ hx), h w List.mem_cons_self]
      grind
/-- each row less a multiple of u -/
theorem lc_map {u : Vc α} {c : Vc α → α} : ∀ (ws : List α) (vs : List (Vc α)), ∃ S : α, ∀ i, lc ws (vs.map fun x => fun i => x i + c x * u i) i = lc ws vs i + S * u i
  | [], vs => ⟨0, fun i => by rw [lc_nil_l, lc_nil_l]; grind⟩
  | w :: ws, [] => ⟨0, fun i => by rw [List.map_nil, lc_nil_r]; grind⟩
  | w :: ws, v :: vs => by
    obtain ⟨S, h⟩ := lc_map (u := u) (c := c) ws vs
    refine ⟨S + w * c v, fun i => ?_⟩
    rw [List.map_cons, lc_cons, lc_cons, h i]
    grind
theorem ind_step {u : Vc α} {l r : List (Vc α)} {c : Vc α → α} (h : Ind (l ++ u :: r)) : Ind ((l ++ r).map fun x => fun i => x i + c x * u i) := by
  intro ws hl hz
  obtain ⟨S, hS⟩ := lc_map (u := u) (c := c) ws (l ++ r)
  rw [List.length_map] at hl
  have e : ws = ws.take l.length ++ ws.drop l.length := (List.take_append_drop _ _).symm
  rw [List.length_append] at hl
  have h1 : (ws.take l.length).length = l.length := by rw [List.length_take]; omega
  have h2 : (ws.drop l.length).length = r.length := by rw [List.length_drop]; omega
  have key := h (ws.take l.length ++ S :: ws.drop l.length) (by rw [List.length_append, List.length_append, List.length_cons, List.length_cons, h1, h2]) fun i => by
    rw [lc_append i h1, lc_cons]
    have q := hS i
    rw [hz i] at q
    rw [e, lc_append i h1] at q
    grind
  intro w hw
  rw [e] at hw
  refine key w ?_
  rcases List.mem_append.mp hw with q | q
  · exact List.mem_append_left _ q
  · exact List.mem_append_right _ (List.mem_cons_of_mem _ q)
/-- STEINITZ -/
theorem steinitz : ∀ (vs us : List (Vc α)), Ind us → (∀ u ∈ us, Sp vs u) → us.length ≤ vs.length := by
  intro vs
  induction vs with
  | nil =>
    intro us hi hs
    cases us with
    | nil => exact Nat.le_refl _
    | cons u us =>
      have hu : ∀ i, u i = 0 := by
        have z : ∀ x : Vc α, Sp ([] : List (Vc α)) x → ∀ i, x i = 0 := by
          intro x hx
          induction hx with
          | zero => intro i; rfl
          | add w hv _ _ => exact absurd hv (List.not_mem_nil)
        exact z u (hs u List.mem_cons_self)
      have q := hi (1 :: us.map fun _ => 0) (by simp) (fun i => by
        rw [lc_cons, lc_zero i (by intro w hw; obtain ⟨_, _, e⟩ := List.mem_map.mp hw; exact e.symm), hu i]
        grind) 1 List.mem_cons_self
      exact absurd q Fl.one_ne
  | cons v vs ih =>
    intro us hi hs
    by_cases hall : ∀ u ∈ us, Sp vs u
    · exact Nat.le_succ_of_le (ih us hi hall)
    · obtain ⟨u, hu⟩ := Classical.not_forall.mp hall
      obtain ⟨hu, hn⟩ := Classical.not_imp.mp hu
      obtain ⟨a, ha⟩ := (hs u hu).split
      have ha0 : a ≠ 0 := fun z => hn (ha.of_eq fun i => by rw [z]; grind)
      obtain ⟨l, r, rfl⟩ := List.append_of_mem hu
      have ex : ∀ x : Vc α, ∃ b : α, x ∈ l ++ r → Sp vs (fun i => x i + b * v i) := fun x => by
        by_cases hx : x ∈ l ++ r
        · have hx' : x ∈ l ++ u :: r := by
            rcases List.mem_append.mp hx with q | q
            · exact List.mem_append_left _ q
            · exact List.mem_append_right _ (List.mem_cons_of_mem _ q)
          obtain ⟨b, hb⟩ := (hs x hx').split
          exact ⟨b, fun _ => hb⟩
        · exact ⟨0, fun z => absurd z hx⟩
      obtain ⟨b, hb⟩ := Classical.axiomOfChoice ex
      have q := ih ((l ++ r).map fun x => fun i => x i + (-(b x * Fl.inv a)) * u i) (ind_step hi) fun y hy => by
        obtain ⟨x, hx, rfl⟩ := List.mem_map.mp hy
        refine ((hb x hx).axpy (-(b x * Fl.inv a)) ha).of_eq fun i => ?_
        have m := Fl.mul_inv a ha0
        grind
      rw [List.length_map, List.length_append] at q
      rw [List.length_append, List.length_cons, List.length_cons]
      omega
/-- two unbound lists that span each other -/
theorem same_len {us vs : List (Vc α)} (hu : Ind us) (hv : Ind vs) (h1 : ∀ u ∈ us, Sp vs u) (h2 : ∀ v ∈ vs, Sp us v) : us.length = vs.length :=
  Nat.le_antisymm (steinitz vs us hu h1) (steinitz us vs hv h2)
/-- steps: each has a place where it is not zero and all later ones are -/
def Ech (ps : List (Nat × Vc α)) : Prop := (∀ p ∈ ps, p.2 p.1 ≠ 0) ∧ ps.Pairwise fun p q => q.2 p.1 = 0
theorem lc_at_zero {j : Nat} : ∀ {ws : List α} {vs : List (Vc α)}, (∀ v ∈ vs, v j = 0) → lc ws vs j = 0
  | [], vs, _ => lc_nil_l vs j
  | _ :: _, [], _ => rfl
  | w :: ws, v :: vs, h => by
    rw [lc_cons, h v List.mem_cons_self, lc_at_zero fun x hx => h x (List.mem_cons_of_mem _ hx)]
    grind
theorem Ech.tail {p : Nat × Vc α} {ps : List (Nat × Vc α)} (h : Ech (p :: ps)) : Ech ps := ⟨fun q hq => h.1 q (List.mem_cons_of_mem _ hq), (List.pairwise_cons.mp h.2).2⟩
theorem mul_eq_zero {a b : α} (h : a * b = 0) (hb : b ≠ 0) : a = 0 := by
  have m := Fl.mul_inv b hb
  grind
/-- a sum of steps that is zero at all their places has zero weights -/
theorem ech_zero : ∀ {ps : List (Nat × Vc α)} {ws : List α}, Ech ps → ws.length = ps.length → (∀ p ∈ ps, lc ws (ps.map (·.2)) p.1 = 0) → ∀ w ∈ ws, w = 0
  | [], [], _, _, _ => fun w hw => absurd hw List.not_mem_nil
  | p :: ps, w :: ws, h, hl, hz => by
    have h0 := hz p List.mem_cons_self
    rw [List.map_cons, lc_cons, lc_at_zero (fun v hv => by
      obtain ⟨q, hq, rfl⟩ := List.mem_map.mp hv
      exact (List.pairwise_cons.mp h.2).1 q hq)] at h0
    have hw : w = 0 := mul_eq_zero (b := p.2 p.1) (by grind) (h.1 p List.mem_cons_self)
    intro x hx
    rcases List.mem_cons.mp hx with e | hx
    · rw [e]; exact hw
    · refine ech_zero h.tail (by simpa using hl) (fun q hq => ?_) x hx
      have := hz q (List.mem_cons_of_mem _ hq)
      rw [List.map_cons, lc_cons, hw] at this
      grind
theorem Ech.ind {ps : List (Nat × Vc α)} (h : Ech ps) : Ind (ps.map (·.2)) := fun ws hl hz => ech_zero h (by simpa using hl) fun p _ => hz p.1
/-- a member of the span is a sum -/
theorem Sp.toLc {vs : List (Vc α)} {x : Vc α} (h : Sp vs x) : ∃ ws : List α, ws.length = vs.length ∧ ∀ i, x i = M26.lc ws vs i := by
  induction vs generalizing x with
  | nil =>
    refine ⟨[], rfl, fun i => ?_⟩
    induction h with
    | zero => rfl
    | add w hv _ _ => exact absurd hv List.not_mem_nil
  | cons v vs ih =>
    obtain ⟨a, ha⟩ := h.split
    obtain ⟨ws, hl, e⟩ := ih ha
    refine ⟨(-a) :: ws, by simp [hl], fun i => ?_⟩
    rw [lc_cons, ← e i]
    grind
/-- in the span of steps and zero at all places: zero -/
theorem Ech.zero {ps : List (Nat × Vc α)} (h : Ech ps) {x : Vc α} (hx : Sp (ps.map (·.2)) x) (hz : ∀ p ∈ ps, x p.1 = 0) : ∀ i, x i = 0 := by
  obtain ⟨ws, hl, e⟩ := hx.toLc
  intro i
  rw [e i]
  exact lc_zero i (ech_zero h (by simpa using hl) fun p hp => by rw [← e]; exact hz p hp)
theorem Ech.snoc {ps : List (Nat × Vc α)} (h : Ech ps) {l : Nat} {x : Vc α} (hx : x l ≠ 0) (hz : ∀ p ∈ ps, x p.1 = 0) : Ech (ps ++ [(l, x)]) := by
  refine ⟨fun p hp => ?_, ?_⟩
  · rcases List.mem_append.mp hp with q | q
    · exact h.1 p q
    · have : p = (l, x) := by simpa using q
      rw [this]; exact hx
  · rw [List.pairwise_append]
    refine ⟨h.2, List.pairwise_singleton _ _, fun p hp q hq => ?_⟩
    have : q = (l, x) := by simpa using hq
    rw [this]; exact hz p hp
end
end M26

end

/-! ## MathB -/
section
/-! The mirrors: what each def computes, over lists; and what they are worth. -/
set_option linter.all false
namespace M26
section
variable {α : Type} [Fl α]
/-- the row as a function, zero beyond its end -/
def fn (xs : List α) : Vc α := fun i => xs.getD i 0
theorem fn_lt {xs : List α} {i : Nat} (h : i < xs.length) : fn xs i = xs[i] := by
  unfold fn; rw [List.getD_eq_getElem?_getD, List.getElem?_eq_getElem h]; rfl
theorem fn_ge {xs : List α} {i : Nat} (h : xs.length ≤ i) : fn xs i = 0 := by
  unfold fn; rw [List.getD_eq_getElem?_getD, List.getElem?_eq_none h]; rfl
theorem fn_ext {xs ys : List α} (hl : xs.length = ys.length) (h : ∀ i, i < xs.length → fn xs i = fn ys i) : xs = ys := by
  apply List.ext_getElem hl
  intro i h1 h2
  have := h i h1
  rwa [fn_lt h1, fn_lt h2] at this
def rowPlus (row : List α) (w : α) (other : List α) : List α := List.zipWith (fun a b => a + w * b) row other
def rowTimes (row : List α) (w : α) : List α := row.map fun a => w * a
def unitRow (n i : Nat) : List α := (List.range n).map fun j => if i = j then 1 else 0
def unitRows (n : Nat) : List (List α) := (List.range n).map fun i => unitRow n i
def zeroRow (n : Nat) : List α := List.replicate n 0
def leadOf (xs : List α) : Option Nat := xs.findIdx? fun x => decide (x ≠ 0)
abbrev Stp (α : Type) := Nat × List α × List α
def elim (s : List α × List α) (k : Stp α) : List α × List α := (rowPlus s.1 (0 - fn s.1 k.1) k.2.1, rowPlus s.2 (0 - fn s.1 k.1) k.2.2)
def elimW (s : List α × List α) (k : Stp α) : List α × List α := (rowPlus s.1 (0 - fn s.1 k.1) k.2.1, rowPlus s.2 (fn s.1 k.1) k.2.2)
def addRow (kept : List (Stp α)) (row unit : List α) : List (Stp α) :=
  match leadOf (kept.foldl elim (row, unit)).1 with
  | none => kept
  | some j => kept ++ [(j, rowTimes (kept.foldl elim (row, unit)).1 (Fl.inv (fn (kept.foldl elim (row, unit)).1 j)), rowTimes (kept.foldl elim (row, unit)).2 (Fl.inv (fn (kept.foldl elim (row, unit)).1 j)))]
/-- the steps kept behind the rows with their units -/
def keptOf (ps : List (List α × List α)) : List (Stp α) := ps.foldl (fun kept p => addRow kept p.1 p.2) []
def redKept (rows : List (List α)) : List (Stp α) := keptOf (rows.zip (unitRows rows.length))
def weightsFor (rows : List (List α)) (row : List α) : Option (List α) :=
  match leadOf ((redKept rows).foldl elimW (row, zeroRow rows.length)).1 with
  | some _ => none
  | none => some ((redKept rows).foldl elimW (row, zeroRow rows.length)).2
/-- the law's sum of rows with weights -/
def lawSum (ws : List α) (rows : List (List α)) (width : Nat) : List α :=
  (List.range rows.length).foldl (fun total k => (List.range width).map fun i => fn total i + fn ws k * fn (rows.getD k []) i) (List.replicate width 0)
def wsum (ws : List α) (rows : List (List α)) (width : Nat) : List α := (ws.zip rows).foldl (fun total p => rowPlus total p.1 p.2) (zeroRow width)

/-! ### what the rows are as functions -/
theorem rowPlus_len {row other : List α} {w : α} (h : row.length = other.length) : (rowPlus row w other).length = row.length := by
  unfold rowPlus; rw [List.length_zipWith]; omega
theorem fn_rowPlus {row other : List α} {w : α} (h : row.length = other.length) (i : Nat) : fn (rowPlus row w other) i = fn row i + w * fn other i := by
  by_cases hi : i < row.length
  · rw [fn_lt (by rw [rowPlus_len h]; exact hi), fn_lt hi, fn_lt (by omega)]
    unfold rowPlus
    rw [List.getElem_zipWith]
  · rw [fn_ge (by rw [rowPlus_len h]; omega), fn_ge (by omega), fn_ge (by omega)]
    grind
theorem rowTimes_len {row : List α} {w : α} : (rowTimes row w).length = row.length := by unfold rowTimes; rw [List.length_map]
theorem fn_rowTimes {row : List α} {w : α} (i : Nat) : fn (rowTimes row w) i = w * fn row i := by
  by_cases hi : i < row.length
  · rw [fn_lt (by rw [rowTimes_len]; exact hi), fn_lt hi]
    unfold rowTimes
    rw [List.getElem_map]
  · rw [fn_ge (by rw [rowTimes_len]; omega), fn_ge (by omega)]
    grind
theorem fn_map_range {n : Nat} {g : Nat → α} (i : Nat) : fn ((List.range n).map g) i = if i < n then g i else 0 := by
  by_cases hi : i < n
  · rw [fn_lt (by rw [List.length_map, List.length_range]; exact hi), if_pos hi, List.getElem_map, List.getElem_range]
  · rw [fn_ge (by rw [List.length_map, List.length_range]; omega), if_neg hi]
theorem fn_zeroRow {n : Nat} (i : Nat) : fn (zeroRow n : List α) i = 0 := by
  unfold fn zeroRow
  rw [List.getD_eq_getElem?_getD, List.getElem?_replicate]
  split <;> rfl
theorem unitRow_len {n i : Nat} : (unitRow n i : List α).length = n := by unfold unitRow; rw [List.length_map, List.length_range]
theorem unitRows_len {n : Nat} : (unitRows n : List (List α)).length = n := by unfold unitRows; rw [List.length_map, List.length_range]
theorem fn_unitRow {n i : Nat} (j : Nat) : fn (unitRow n i : List α) j = if j < n ∧ i = j then 1 else 0 := by
  unfold unitRow
  rw [fn_map_range]
  by_cases h : j < n
  · rw [if_pos h]
    by_cases e : i = j
    · rw [if_pos e, if_pos ⟨h, e⟩]
    · rw [if_neg e, if_neg fun z => e z.2]
  · rw [if_neg h, if_neg fun z => h z.1]
theorem leadOf_none {xs : List α} (h : leadOf xs = none) (i : Nat) : fn xs i = 0 := by
  by_cases hi : i < xs.length
  · rw [fn_lt hi]
    unfold leadOf at h
    rw [List.findIdx?_eq_none_iff] at h
    have := h xs[i] (List.getElem_mem hi)
    simpa using this
  · exact fn_ge (by omega)
theorem leadOf_some {xs : List α} {j : Nat} (h : leadOf xs = some j) : j < xs.length ∧ fn xs j ≠ 0 := by
  unfold leadOf at h
  rw [List.findIdx?_eq_some_iff_getElem] at h
  obtain ⟨hj, h1, _⟩ := h
  refine ⟨hj, ?_⟩
  rw [fn_lt hj]
  simpa using h1

/-! ### sums by places -/
/-- the sum of the first n places' rows -/
def ap (y : Vc α) (n : Nat) (R : List (Vc α)) : Vc α := lc ((List.range n).map y) R
theorem lc_fn_unit {n i : Nat} (hi : i < n) : ∀ (vs : List (Vc α)), vs.length = n → ∀ c, lc (unitRow n i) vs c = (vs.getD i (fun _ => 0)) c := by
  have key : ∀ (m s : Nat) (vs : List (Vc α)), vs.length = m → ∀ c, lc ((List.range' s m).map fun j => if i = j then (1 : α) else 0) vs c = if s ≤ i then (vs.getD (i - s) (fun _ => 0)) c else 0 := by
    intro m
    induction m with
    | zero =>
      intro s vs hl c
      have : vs = [] := List.length_eq_zero_iff.mp hl
      subst this
      rw [lc_nil_r]
      split <;> simp
    | succ m ih =>
      intro s vs hl c
      cases vs with
      | nil => simp at hl
      | cons v vs =>
        rw [List.range'_succ, List.map_cons, lc_cons, ih (s + 1) vs (by simpa using hl) c]
        by_cases h1 : i = s
        · subst h1
          rw [if_pos rfl, if_neg (by omega), if_pos (Nat.le_refl _), Nat.sub_self]
          simp only [List.getD_cons_zero]
          grind
        · rw [if_neg h1]
          by_cases h2 : s ≤ i
          · have h3 : s + 1 ≤ i := by omega
            rw [if_pos h3, if_pos h2]
            have e : i - s = (i - (s + 1)) + 1 := by omega
            rw [e, List.getD_cons_succ]
            grind
          · rw [if_neg (by omega), if_neg h2]
            grind
  intro vs hl c
  have := key n 0 vs hl c
  rw [if_pos (Nat.zero_le _)] at this
  unfold unitRow
  rw [List.range_eq_range']
  exact this
theorem lc_congr {ws : List α} {us vs : List (Vc α)} {i j : Nat} (h : us.map (· i) = vs.map (· j)) : lc ws us i = lc ws vs j := by
  induction us generalizing ws vs with
  | nil =>
    cases vs with
    | nil => rw [lc_nil_r, lc_nil_r]
    | cons _ _ => simp at h
  | cons u us ih =>
    cases vs with
    | nil => simp at h
    | cons v vs =>
      cases ws with
      | nil => rw [lc_nil_l, lc_nil_l]
      | cons w ws =>
        rw [List.map_cons, List.map_cons, List.cons.injEq] at h
        rw [lc_cons, lc_cons, h.1, ih h.2]
/-- the sum by two weights -/
theorem lc_axpy : ∀ {ws us : List α} {a : α} {vs : List (Vc α)} (i : Nat), ws.length = us.length → lc (rowPlus ws a us) vs i = lc ws vs i + a * lc us vs i
  | [], [], a, vs, i, _ => by
    show lc [] vs i = lc [] vs i + a * lc [] vs i
    rw [lc_nil_l]; grind
  | w :: ws, u :: us, a, [], i, _ => by rw [lc_nil_r, lc_nil_r, lc_nil_r]; grind
  | w :: ws, u :: us, a, v :: vs, i, h => by
    have ih := lc_axpy (ws := ws) (us := us) (a := a) (vs := vs) i (by simpa using h)
    show (w + a * u) * v i + lc (rowPlus ws a us) vs i = (w * v i + lc ws vs i) + a * (u * v i + lc us vs i)
    rw [ih]; grind
theorem lc_times : ∀ {ws : List α} {a : α} {vs : List (Vc α)} (i : Nat), lc (rowTimes ws a) vs i = a * lc ws vs i
  | [], a, vs, i => by
    show lc [] vs i = a * lc [] vs i
    rw [lc_nil_l]; grind
  | w :: ws, a, [], i => by rw [lc_nil_r, lc_nil_r]; grind
  | w :: ws, a, v :: vs, i => by
    have ih := lc_times (ws := ws) (a := a) (vs := vs) i
    show (a * w) * v i + lc (rowTimes ws a) vs i = a * (w * v i + lc ws vs i)
    rw [ih]; grind
theorem lc_zeroRow {n : Nat} {vs : List (Vc α)} (i : Nat) : lc (zeroRow n) vs i = 0 := lc_zero i fun w hw => by
  unfold zeroRow at hw
  exact (List.mem_replicate.mp hw).2

/-! ### the elimination -/
/-- a kept list that fits: widths w and m, one at its own lead, zero at the leads ahead; what it is the sum of -/
structure KOk (w m : Nat) (kept : List (Stp α)) : Prop where
  len : ∀ k ∈ kept, k.1 < w ∧ k.2.1.length = w ∧ k.2.2.length = m
  one : ∀ k ∈ kept, fn k.2.1 k.1 = 1
  ech : kept.Pairwise fun p q => fn q.2.1 p.1 = 0
def steps (kept : List (Stp α)) : List (Nat × Vc α) := kept.map fun k => (k.1, fn k.2.1)
theorem KOk.ech' {w m : Nat} {kept : List (Stp α)} (h : KOk w m kept) : Ech (steps kept) := by
  refine ⟨fun p hp => ?_, ?_⟩
  · obtain ⟨k, hk, rfl⟩ := List.mem_map.mp hp
    show fn k.2.1 k.1 ≠ 0
    rw [h.one k hk]; exact Fl.one_ne
  · unfold steps
    rw [List.pairwise_map]
    exact h.ech
theorem steps_map (kept : List (Stp α)) : (steps kept).map (·.2) = kept.map fun k => fn k.2.1 := by
  unfold steps; rw [List.map_map]; rfl
theorem KOk.tail {w m : Nat} {k : Stp α} {kept : List (Stp α)} (h : KOk w m (k :: kept)) : KOk w m kept :=
  ⟨fun q hq => h.len q (List.mem_cons_of_mem _ hq), fun q hq => h.one q (List.mem_cons_of_mem _ hq), (List.pairwise_cons.mp h.ech).2⟩
/-- the row side of the elimination does not look at the weights, nor at their sign -/
theorem elim_fst : ∀ (kept : List (Stp α)) (row u v : List α), (kept.foldl elim (row, u)).1 = (kept.foldl elimW (row, v)).1
  | [], _, _, _ => rfl
  | k :: kept, row, u, v => elim_fst kept _ _ _
/-- behind the elimination: lengths; zero at all leads; the row less it is in the span -/
theorem elim_row {w m : Nat} : ∀ {kept : List (Stp α)} {row u : List α}, KOk w m kept → row.length = w → u.length = m →
    (kept.foldl elim (row, u)).1.length = w ∧ (kept.foldl elim (row, u)).2.length = m ∧
    (∀ j, fn row j = 0 → (∀ k ∈ kept, fn k.2.1 j = 0) → fn (kept.foldl elim (row, u)).1 j = 0) ∧
    (∀ k ∈ kept, fn (kept.foldl elim (row, u)).1 k.1 = 0) ∧
    Sp (kept.map fun k => fn k.2.1) (fun i => fn (kept.foldl elim (row, u)).1 i + (-1) * fn row i)
  | [], row, u, _, h1, h2 => ⟨h1, h2, fun _ h _ => h, fun k hk => absurd hk List.not_mem_nil, Sp.zero.of_eq fun i => by show 0 = fn row i + (-1) * fn row i; grind⟩
  | k :: kept, row, u, h, h1, h2 => by
    obtain ⟨hk1, hk2, hk3⟩ := h.len k List.mem_cons_self
    have l1 : (rowPlus row (0 - fn row k.1) k.2.1).length = w := by rw [rowPlus_len (by omega)]; exact h1
    have l2 : (rowPlus u (0 - fn row k.1) k.2.2).length = m := by rw [rowPlus_len (by omega)]; exact h2
    obtain ⟨q1, q2, q3, q4, q5⟩ := elim_row (kept := kept) h.tail l1 l2
    have f1 : ∀ j, fn (rowPlus row (0 - fn row k.1) k.2.1) j = fn row j + (0 - fn row k.1) * fn k.2.1 j := fun j => fn_rowPlus (by omega) j
    refine ⟨q1, q2, fun j hj hz => ?_, fun p hp => ?_, ?_⟩
    · refine q3 j ?_ fun p hp => hz p (List.mem_cons_of_mem _ hp)
      rw [f1 j, hj, hz k List.mem_cons_self]; grind
    · rcases List.mem_cons.mp hp with e | hp
      · subst e
        refine q3 p.1 ?_ fun q hq => (List.pairwise_cons.mp h.ech).1 q hq
        rw [f1, h.one p List.mem_cons_self]; grind
      · exact q4 p hp
    · have a1 : Sp ((k :: kept).map fun k => fn k.2.1) (fun i => fn (kept.foldl elim (rowPlus row (0 - fn row k.1) k.2.1, rowPlus u (0 - fn row k.1) k.2.2)).1 i + (-1) * fn (rowPlus row (0 - fn row k.1) k.2.1) i) :=
        q5.mono fun v hv => by rw [List.map_cons]; exact List.mem_cons_of_mem _ hv
      have a2 : Sp ((k :: kept).map fun k => fn k.2.1) (fn k.2.1) := Sp.mem (by rw [List.map_cons]; exact List.mem_cons_self)
      refine (a1.axpy (0 - fn row k.1) a2).of_eq fun i => ?_
      rw [f1 i]
      show _ = fn (kept.foldl elim (rowPlus row (0 - fn row k.1) k.2.1, rowPlus u (0 - fn row k.1) k.2.2)).1 i + (-1) * fn row i
      grind
/-- the weights go along: row = sum with u -/
theorem elim_wts {w m : Nat} {R : List (Vc α)} : ∀ {kept : List (Stp α)} {row u : List α}, KOk w m kept → (∀ k ∈ kept, ∀ i, fn k.2.1 i = lc k.2.2 R i) → row.length = w → u.length = m → (∀ i, fn row i = lc u R i) →
    ∀ i, fn (kept.foldl elim (row, u)).1 i = lc (kept.foldl elim (row, u)).2 R i
  | [], row, u, _, _, _, _, h => h
  | k :: kept, row, u, h, hk, h1, h2, e => by
    obtain ⟨hk1, hk2, hk3⟩ := h.len k List.mem_cons_self
    have h3 : (row, u).1.length = k.2.1.length := by show row.length = _; omega
    have h4 : (row, u).2.length = k.2.2.length := by show u.length = _; omega
    refine elim_wts (kept := kept) h.tail (fun q hq => hk q (List.mem_cons_of_mem _ hq)) (by rw [rowPlus_len h3]; exact h1) (by rw [rowPlus_len h4]; exact h2) fun i => ?_
    rw [fn_rowPlus h3, lc_axpy i h4, hk k List.mem_cons_self i]
    show fn row i + _ = lc u R i + _
    rw [e i]
theorem elimW_wts {w m : Nat} {R : List (Vc α)} : ∀ {kept : List (Stp α)} {row u : List α}, KOk w m kept → (∀ k ∈ kept, ∀ i, fn k.2.1 i = lc k.2.2 R i) → row.length = w → u.length = m →
    (kept.foldl elimW (row, u)).2.length = m ∧ ∀ i, fn (kept.foldl elimW (row, u)).1 i + lc (kept.foldl elimW (row, u)).2 R i = fn row i + lc u R i
  | [], row, u, _, _, _, h2 => ⟨h2, fun i => rfl⟩
  | k :: kept, row, u, h, hk, h1, h2 => by
    obtain ⟨hk1, hk2, hk3⟩ := h.len k List.mem_cons_self
    obtain ⟨a, b⟩ := elimW_wts (kept := kept) (row := rowPlus row (0 - fn row k.1) k.2.1) (u := rowPlus u (fn row k.1) k.2.2) h.tail (fun q hq => hk q (List.mem_cons_of_mem _ hq)) (by rw [rowPlus_len (by omega)]; exact h1) (by rw [rowPlus_len (by omega)]; exact h2)
    refine ⟨a, fun i => ?_⟩
    have q := b i
    rw [fn_rowPlus (row := row) (by omega), lc_axpy (ws := u) i (by omega)] at q
    show fn (kept.foldl elimW (rowPlus row (0 - fn row k.1) k.2.1, rowPlus u (fn row k.1) k.2.2)).1 i + lc (kept.foldl elimW (rowPlus row (0 - fn row k.1) k.2.1, rowPlus u (fn row k.1) k.2.2)).2 R i = _
    rw [q, hk k List.mem_cons_self i]
    grind
/-- one row more -/
theorem addRow_ok {w m : Nat} {kept : List (Stp α)} {row u : List α} (h : KOk w m kept) (h1 : row.length = w) (h2 : u.length = m) : KOk w m (addRow kept row u) ∧
    (∀ x, Sp ((addRow kept row u).map fun k => fn k.2.1) x ↔ Sp (fn row :: kept.map fun k => fn k.2.1) x) := by
  obtain ⟨q1, q2, _, q4, q5⟩ := elim_row (u := u) h h1 h2
  unfold addRow
  have up : ∀ x, Sp (kept.map fun k => fn k.2.1) x → Sp (fn row :: kept.map fun k => fn k.2.1) x := fun x hx => hx.mono fun v hv => List.mem_cons_of_mem _ hv
  generalize hs : kept.foldl elim (row, u) = s at q1 q2 q4 q5
  cases e : leadOf s.1 with
  | none =>
    refine ⟨h, fun x => ⟨up x, fun hx => hx.trans fun v hv => ?_⟩⟩
    rcases List.mem_cons.mp hv with z | z
    · subst z
      refine (q5.smul (-1)).of_eq fun i => ?_
      rw [leadOf_none e i]; grind
    · exact .mem z
  | some j =>
    obtain ⟨hj, hne⟩ := leadOf_some e
    have hm := Fl.mul_inv _ hne
    refine ⟨⟨fun k hk => ?_, fun k hk => ?_, ?_⟩, fun x => ⟨fun hx => hx.trans fun v hv => ?_, fun hx => hx.trans fun v hv => ?_⟩⟩
    · rcases List.mem_append.mp hk with z | z
      · exact h.len k z
      · have z : k = _ := List.mem_singleton.mp z
        subst z
        exact ⟨by show j < w; omega, by show (rowTimes _ _).length = w; rw [rowTimes_len]; exact q1, by show (rowTimes _ _).length = m; rw [rowTimes_len]; exact q2⟩
    · rcases List.mem_append.mp hk with z | z
      · exact h.one k z
      · have z : k = _ := List.mem_singleton.mp z
        subst z
        show fn (rowTimes _ _) j = 1
        rw [fn_rowTimes]; grind
    · rw [List.pairwise_append]
      refine ⟨h.ech, List.pairwise_singleton _ _, fun p hp q hq => ?_⟩
      have hq : q = _ := List.mem_singleton.mp hq
      subst hq
      show fn (rowTimes _ _) p.1 = 0
      rw [fn_rowTimes, q4 p hp]; grind
    · rw [List.map_append] at hv
      rcases List.mem_append.mp hv with z | z
      · exact .mem (List.mem_cons_of_mem _ z)
      · have z : v = _ := List.mem_singleton.mp z
        subst z
        have a1 := up _ q5
        have a2 : Sp (fn row :: kept.map fun k => fn k.2.1) (fn row) := .mem List.mem_cons_self
        refine ((a1.axpy 1 a2).smul (Fl.inv (fn s.1 j))).of_eq fun i => ?_
        show _ = fn (rowTimes s.1 (Fl.inv (fn s.1 j))) i
        rw [fn_rowTimes]; grind
    · rw [List.map_append]
      have lo : ∀ x, Sp (kept.map fun k => fn k.2.1) x → Sp (kept.map (fun k => fn k.2.1) ++ [(j, rowTimes s.1 (Fl.inv (fn s.1 j)), rowTimes s.2 (Fl.inv (fn s.1 j)))].map fun k => fn k.2.1) x := fun x hx => hx.mono fun v hv => List.mem_append_left _ hv
      rcases List.mem_cons.mp hv with z | z
      · subst z
        have a1 := lo _ q5
        have a2 : Sp (kept.map (fun k => fn k.2.1) ++ [(j, rowTimes s.1 (Fl.inv (fn s.1 j)), rowTimes s.2 (Fl.inv (fn s.1 j)))].map fun k => fn k.2.1) (fn (rowTimes s.1 (Fl.inv (fn s.1 j)))) := .mem (List.mem_append_right _ (List.mem_singleton.mpr rfl))
        refine ((a1.smul (-1)).axpy (fn s.1 j) a2).of_eq fun i => ?_
        rw [fn_rowTimes]; grind
      · exact lo _ (.mem z)
theorem addRow_wts {w m : Nat} {R : List (Vc α)} {kept : List (Stp α)} {row u : List α} (h : KOk w m kept) (hk : ∀ k ∈ kept, ∀ i, fn k.2.1 i = lc k.2.2 R i) (h1 : row.length = w) (h2 : u.length = m) (e : ∀ i, fn row i = lc u R i) :
    ∀ k ∈ addRow kept row u, ∀ i, fn k.2.1 i = lc k.2.2 R i := by
  have q := elim_wts h hk h1 h2 e
  unfold addRow
  generalize hs : kept.foldl elim (row, u) = s at q
  cases e : leadOf s.1 with
  | none => exact hk
  | some j =>
    intro k hk' i
    rcases List.mem_append.mp hk' with z | z
    · exact hk k z i
    · have z : k = _ := List.mem_singleton.mp z
      subst z
      show fn (rowTimes _ _) i = lc (rowTimes _ _) R i
      rw [fn_rowTimes, lc_times, q i]
theorem addRow_len (kept : List (Stp α)) (row u : List α) : (addRow kept row u).length ≤ kept.length + 1 := by
  unfold addRow
  split
  · omega
  · rw [List.length_append]; exact Nat.le_refl _
theorem keptOf_ok {w m : Nat} : ∀ (ps : List (List α × List α)) (kept : List (Stp α)), KOk w m kept → (∀ p ∈ ps, p.1.length = w ∧ p.2.length = m) →
    KOk w m (ps.foldl (fun kept p => addRow kept p.1 p.2) kept) ∧ ∀ x, Sp ((ps.foldl (fun kept p => addRow kept p.1 p.2) kept).map fun k => fn k.2.1) x ↔ Sp (ps.map (fun p => fn p.1) ++ kept.map fun k => fn k.2.1) x
  | [], kept, h, _ => ⟨h, fun _ => Iff.rfl⟩
  | p :: ps, kept, h, hl => by
    obtain ⟨l1, l2⟩ := hl p List.mem_cons_self
    obtain ⟨a, b⟩ := addRow_ok h l1 l2
    obtain ⟨c, d⟩ := keptOf_ok ps _ a fun q hq => hl q (List.mem_cons_of_mem _ hq)
    refine ⟨c, fun x => (d x).trans ⟨fun hx => hx.trans fun v hv => ?_, fun hx => hx.trans fun v hv => ?_⟩⟩
    · rcases List.mem_append.mp hv with z | z
      · exact .mem (List.mem_append_left _ (List.mem_cons_of_mem _ z))
      · refine ((b v).mp (.mem z)).mono fun y hy => ?_
        rcases List.mem_cons.mp hy with e | hy
        · rw [e]; exact List.mem_append_left _ List.mem_cons_self
        · exact List.mem_append_right _ hy
    · have lo : ∀ y, Sp (fn p.1 :: kept.map fun k => fn k.2.1) y → Sp (ps.map (fun p => fn p.1) ++ (addRow kept p.1 p.2).map fun k => fn k.2.1) y := fun y hy =>
        ((b y).mpr hy).mono fun z hz => List.mem_append_right _ hz
      rcases List.mem_append.mp hv with z | z
      · rcases List.mem_cons.mp z with e | z
        · rw [e]; exact lo _ (.mem List.mem_cons_self)
        · exact .mem (List.mem_append_left _ z)
      · exact lo _ (.mem (List.mem_cons_of_mem _ z))
theorem KOk.nil {w m : Nat} : KOk w m ([] : List (Stp α)) := ⟨fun _ h => absurd h List.not_mem_nil, fun _ h => absurd h List.not_mem_nil, List.Pairwise.nil⟩
theorem zip_units {rows : List (List α)} : (rows.zip (unitRows (α := α) rows.length)).map (fun p => fn p.1) = rows.map fn := by
  have : (rows.zip (unitRows (α := α) rows.length)).map (·.1) = rows := by
    rw [List.map_fst_zip]
    rw [unitRows_len]
    exact Nat.le_refl _
  have e : (rows.zip (unitRows (α := α) rows.length)).map (fun p => fn p.1) = ((rows.zip (unitRows (α := α) rows.length)).map (·.1)).map fn := by
    rw [List.map_map]; rfl
  rw [e, this]
theorem zip_units_len {w : Nat} {rows : List (List α)} (hw : ∀ r ∈ rows, r.length = w) : ∀ p ∈ rows.zip (unitRows (α := α) rows.length), p.1.length = w ∧ p.2.length = rows.length := fun p hp => by
  have h1 := List.of_mem_zip (a := p.1) (b := p.2) hp
  refine ⟨hw _ h1.1, ?_⟩
  obtain ⟨i, _, e⟩ := List.mem_map.mp h1.2
  rw [← e, unitRow_len]
/-- the program's reduction: it fits, and it spans what the rows span -/
theorem redKept_ok {w : Nat} {rows : List (List α)} (hw : ∀ r ∈ rows, r.length = w) : KOk w rows.length (redKept rows) ∧ ∀ x, Sp ((redKept rows).map fun k => fn k.2.1) x ↔ Sp (rows.map fn) x := by
  obtain ⟨a, b⟩ := keptOf_ok (w := w) (m := rows.length) (rows.zip (unitRows rows.length)) [] .nil (zip_units_len hw)
  refine ⟨a, fun x => (b x).trans ?_⟩
  rw [zip_units, List.map_nil, List.append_nil]
theorem keptOf_wts {w m : Nat} {R : List (Vc α)} : ∀ (ps : List (List α × List α)) (kept : List (Stp α)), KOk w m kept → (∀ k ∈ kept, ∀ i, fn k.2.1 i = lc k.2.2 R i) → (∀ p ∈ ps, p.1.length = w ∧ p.2.length = m ∧ ∀ i, fn p.1 i = lc p.2 R i) →
    ∀ k ∈ ps.foldl (fun kept p => addRow kept p.1 p.2) kept, ∀ i, fn k.2.1 i = lc k.2.2 R i
  | [], kept, _, hk, _ => hk
  | p :: ps, kept, h, hk, hl => by
    obtain ⟨l1, l2, l3⟩ := hl p List.mem_cons_self
    exact keptOf_wts ps _ (addRow_ok h l1 l2).1 (addRow_wts h hk l1 l2 l3) fun q hq => hl q (List.mem_cons_of_mem _ hq)
theorem redKept_wts {w : Nat} {rows : List (List α)} (hw : ∀ r ∈ rows, r.length = w) : ∀ k ∈ redKept rows, ∀ i, fn k.2.1 i = lc k.2.2 (rows.map fn) i := by
  refine keptOf_wts (w := w) (m := rows.length) _ [] .nil (fun _ h => absurd h List.not_mem_nil) fun p hp => ?_
  obtain ⟨h1, h2⟩ := zip_units_len hw p hp
  refine ⟨h1, h2, fun i => ?_⟩
  obtain ⟨j, hj⟩ := List.getElem_of_mem hp
  obtain ⟨hj, e⟩ := hj
  rw [List.getElem_zip] at e
  have hj' : j < rows.length := by rw [List.length_zip, unitRows_len] at hj; omega
  have e2 : p.2 = unitRow rows.length j := by
    rw [← e]
    simp [unitRows]
  have e1 : p.1 = rows[j] := by rw [← e]
  rw [e2, lc_fn_unit hj' _ (by rw [List.length_map]), e1, List.getD_eq_getElem?_getD, List.getElem?_map, List.getElem?_eq_getElem hj']
  rfl
/-- weights: they make the row, or the row is no sum -/
theorem weightsFor_some {w : Nat} {rows : List (List α)} {row ws : List α} (hw : ∀ r ∈ rows, r.length = w) (hr : row.length = w) (h : weightsFor rows row = some ws) :
    ws.length = rows.length ∧ ∀ i, lc ws (rows.map fn) i = fn row i := by
  obtain ⟨a, _⟩ := redKept_ok hw
  obtain ⟨q1, q2⟩ := elimW_wts (R := rows.map fn) (row := row) (u := zeroRow rows.length) a (redKept_wts hw) hr (by unfold zeroRow; rw [List.length_replicate])
  unfold weightsFor at h
  split at h
  · cases h
  · rename_i e
    cases h
    refine ⟨q1, fun i => ?_⟩
    have := q2 i
    rw [leadOf_none e i, lc_zeroRow] at this
    grind
theorem weightsFor_none {w : Nat} {rows : List (List α)} {row : List α} (hw : ∀ r ∈ rows, r.length = w) (hr : row.length = w) : weightsFor rows row = none ↔ ¬ Sp (rows.map fn) (fn row) := by
  obtain ⟨a, b⟩ := redKept_ok hw
  obtain ⟨q1, q2, _, q4, q5⟩ := elim_row (row := row) (u := zeroRow rows.length) a hr (by unfold zeroRow; rw [List.length_replicate])
  have e1 := elim_fst (redKept rows) row (zeroRow rows.length) (zeroRow rows.length)
  rw [e1] at q1 q4 q5
  unfold weightsFor
  constructor
  · intro h hs
    split at h
    · rename_i j e
      obtain ⟨hj, hne⟩ := leadOf_some e
      have hs' := (b _).mpr hs
      have hz := a.ech'.zero (x := fn ((redKept rows).foldl elimW (row, zeroRow rows.length)).1) (by
        rw [steps_map]
        refine (q5.axpy 1 hs').of_eq fun i => by grind) (fun p hp => by
        obtain ⟨k, hk, rfl⟩ := List.mem_map.mp hp
        exact q4 k hk)
      exact hne (hz j)
    · cases h
  · intro hn
    split
    · rfl
    · rename_i e
      refine absurd ((b _).mp ?_) hn
      refine (q5.smul (-1)).of_eq fun i => ?_
      rw [leadOf_none e i]; grind
/-- the number of kept steps is the length of any unbound list with the same span -/
theorem redKept_len {w : Nat} {rows : List (List α)} (hw : ∀ r ∈ rows, r.length = w) {us : List (Vc α)} (hi : Ind us) (h1 : ∀ u ∈ us, Sp (rows.map fn) u) (h2 : ∀ r ∈ rows, Sp us (fn r)) : us.length = (redKept rows).length := by
  obtain ⟨a, b⟩ := redKept_ok hw
  have e : (redKept rows).length = ((steps (redKept rows)).map (·.2)).length := by rw [steps_map, List.length_map]
  rw [e]
  refine same_len hi a.ech'.ind (fun u hu => ?_) fun v hv => ?_
  · rw [steps_map]; exact (b u).mpr (h1 u hu)
  · rw [steps_map] at hv
    exact ((b v).mp (.mem hv)).trans fun x hx => by
      obtain ⟨r, hr, rfl⟩ := List.mem_map.mp hx
      exact h2 r hr
end
end M26

end

/-! ## MathC -/
section
set_option linter.all false
/-! The law's own rank, and what it is worth beside the program's. -/
namespace M26
section
variable {α : Type} [Fl α]
/-- the first place from r on whose row is not zero at c -/
def pivot (left : List (List α)) (r c : Nat) : Option Nat := ((List.range left.length).find? fun k => decide (r ≤ k) && decide (fn (left.getD k []) c ≠ 0))
/-- a row less a multiple of the lead -/
def lessLead (w c : Nat) (lead row : List α) : List α := (List.range w).map fun i => fn row i + (-1 * (fn row c * Fl.inv (fn lead c))) * fn lead i
def swapped (left : List (List α)) (r a : Nat) : List (List α) := (left.set a (left.getD r [])).set r (left.getD a [])
def swept (w c r : Nat) (lead : List α) (left : List (List α)) : List (List α) := left.mapIdx fun k row => if r < k then lessLead w c lead row else row
def lawTurn (w : Nat) (s : List (List α) × Nat) (c : Nat) : List (List α) × Nat :=
  match pivot s.1 s.2 c with
  | none => s
  | some a => (swept w c s.2 (s.1.getD a []) (swapped s.1 s.2 a), s.2 + 1)
def lawRank (rows : List (List α)) : Nat := ((List.range (rows.getD 0 []).length).foldl (lawTurn (rows.getD 0 []).length) (rows, 0)).2

theorem getD_mem {β : Type} {l : List β} {i : Nat} {d : β} (h : i < l.length) : l.getD i d ∈ l := by
  rw [List.getD_eq_getElem?_getD, List.getElem?_eq_getElem h]; exact List.getElem_mem h
theorem getD_lt {β : Type} {l : List β} {i : Nat} {d : β} (h : i < l.length) : l.getD i d = l[i] := by
  rw [List.getD_eq_getElem?_getD, List.getElem?_eq_getElem h]; rfl
theorem pivot_some {left : List (List α)} {r c a : Nat} (h : pivot left r c = some a) : a < left.length ∧ r ≤ a ∧ fn (left.getD a []) c ≠ 0 := by
  unfold pivot at h
  have h1 := List.find?_some h
  have h2 := List.mem_of_find?_eq_some h
  simp only [Bool.and_eq_true, decide_eq_true_eq] at h1
  exact ⟨List.mem_range.mp h2, h1.1, h1.2⟩
theorem pivot_none {left : List (List α)} {r c : Nat} (h : pivot left r c = none) : ∀ k, k < left.length → r ≤ k → fn (left.getD k []) c = 0 := by
  intro k hk hr
  unfold pivot at h
  rw [List.find?_eq_none] at h
  have := h k (List.mem_range.mpr hk)
  simp only [Bool.and_eq_true, decide_eq_true_eq, not_and] at this
  exact Classical.byContradiction fun z => this hr z
/-- where the rows stand behind the swap -/
theorem swapped_len {left : List (List α)} {r a : Nat} : (swapped left r a).length = left.length := by unfold swapped; rw [List.length_set, List.length_set]
theorem swapped_getD {left : List (List α)} {r a : Nat} (hr : r < left.length) (ha : a < left.length) (k : Nat) (hk : k < left.length) :
    (swapped left r a).getD k [] = if k = r then left.getD a [] else if k = a then left.getD r [] else left.getD k [] := by
  unfold swapped
  rw [getD_lt (by rw [List.length_set, List.length_set]; exact hk), List.getElem_set]
  by_cases h1 : r = k
  · rw [if_pos h1, if_pos h1.symm]
  · rw [if_neg h1, if_neg (fun z => h1 z.symm), List.getElem_set]
    by_cases h2 : a = k
    · rw [if_pos h2, if_pos h2.symm]
    · rw [if_neg h2, if_neg (fun z => h2 z.symm), getD_lt hk]
theorem swept_len {w c r : Nat} {lead : List α} {left : List (List α)} : (swept w c r lead left).length = left.length := by unfold swept; rw [List.length_mapIdx]
theorem swept_getD {w c r : Nat} {lead : List α} {left : List (List α)} {k : Nat} (hk : k < left.length) :
    (swept w c r lead left).getD k [] = if r < k then lessLead w c lead (left.getD k []) else left.getD k [] := by
  rw [getD_lt (by rw [swept_len]; exact hk), getD_lt hk]
  unfold swept
  rw [List.getElem_mapIdx]
theorem lessLead_len {w c : Nat} {lead row : List α} : (lessLead w c lead row).length = w := by unfold lessLead; rw [List.length_map, List.length_range]
theorem fn_lessLead {w c : Nat} {lead row : List α} (h1 : lead.length = w) (h2 : row.length = w) (i : Nat) : fn (lessLead w c lead row) i = fn row i + (-1 * (fn row c * Fl.inv (fn lead c))) * fn lead i := by
  unfold lessLead
  rw [fn_map_range]
  by_cases hi : i < w
  · rw [if_pos hi]
  · rw [if_neg hi, fn_ge (xs := row) (i := i) (by omega), fn_ge (xs := lead) (i := i) (by omega)]; grind
/-- the rows as functions, by places -/
def rowAt (left : List (List α)) (k : Nat) : Vc α := fn (left.getD k [])
structure LOk (R : List (Vc α)) (w m c : Nat) (s : List (List α) × Nat) : Prop where
  len : s.1.length = m
  wid : ∀ k, k < m → (s.1.getD k []).length = w
  le : s.2 ≤ m
  lc : s.2 ≤ c
  to : ∀ k, k < m → Sp R (rowAt s.1 k)
  back : ∀ v ∈ R, Sp (s.1.map fn) v
  ech : ∃ ps : List (Nat × Vc α), ps.length = s.2 ∧ Ech ps ∧ (∀ p ∈ ps, p.1 < c) ∧ ps.map (·.2) = (s.1.take s.2).map fn
  zero : ∀ k, s.2 ≤ k → k < m → ∀ j, j < c → rowAt s.1 k j = 0
theorem mem_map_fn {left : List (List α)} {v : Vc α} (h : v ∈ left.map fn) : ∃ k, k < left.length ∧ v = rowAt left k := by
  obtain ⟨r, hr, rfl⟩ := List.mem_map.mp h
  obtain ⟨k, hk, e⟩ := List.getElem_of_mem hr
  exact ⟨k, hk, by unfold rowAt; rw [getD_lt hk, e]⟩
theorem rowAt_mem {left : List (List α)} {k : Nat} (h : k < left.length) : rowAt left k ∈ left.map fn := List.mem_map.mpr ⟨_, getD_mem h, rfl⟩
theorem lawTurn_ok {R : List (Vc α)} {w m c : Nat} {s : List (List α) × Nat} (h : LOk R w m c s) (hc : c < w) : LOk R w m (c + 1) (lawTurn w s c) := by
  unfold lawTurn
  cases e : pivot s.1 s.2 c with
  | none =>
    refine ⟨h.len, h.wid, h.le, Nat.le_succ_of_le h.lc, h.to, h.back, ?_, fun k hk hm j hj => ?_⟩
    · obtain ⟨ps, a, b, c', d⟩ := h.ech
      exact ⟨ps, a, b, fun p hp => Nat.lt_succ_of_lt (c' p hp), d⟩
    · by_cases hj' : j < c
      · exact h.zero k hk hm j hj'
      · have : j = c := by omega
        subst this
        exact pivot_none e k (by rw [h.len]; exact hm) hk
  | some a =>
    obtain ⟨left, r⟩ := s
    have hlen : left.length = m := h.len
    obtain ⟨ha, hra, hne⟩ := pivot_some e
    have ha : a < left.length := ha
    have hra : r ≤ a := hra
    have hne : fn (left.getD a []) c ≠ 0 := hne
    have hr : r < left.length := by omega
    have hm := Fl.mul_inv _ hne
    have sw : ∀ k, k < left.length → (swapped left r a).getD k [] = if k = r then left.getD a [] else if k = a then left.getD r [] else left.getD k [] := fun k hk => swapped_getD hr ha k hk
    have L2 : ∀ k, k < left.length → (swept w c r (left.getD a []) (swapped left r a)).getD k [] = if r < k then lessLead w c (left.getD a []) ((swapped left r a).getD k []) else (swapped left r a).getD k [] := fun k hk => swept_getD (by rw [swapped_len]; exact hk)
    have swW : ∀ k, k < left.length → ((swapped left r a).getD k []).length = w := fun k hk => by
      rw [sw k hk]
      split
      · exact h.wid a (by omega)
      · split
        · exact h.wid r (by omega)
        · exact h.wid k (by omega)
    have leadW : (left.getD a []).length = w := h.wid a (by omega)
    -- the rows behind, as functions
    have F : ∀ k, k < left.length → ∀ i, rowAt (swept w c r (left.getD a []) (swapped left r a)) k i = if r < k then fn ((swapped left r a).getD k []) i + (-1 * (fn ((swapped left r a).getD k []) c * Fl.inv (fn (left.getD a []) c))) * fn (left.getD a []) i else fn ((swapped left r a).getD k []) i := fun k hk i => by
      unfold rowAt
      rw [L2 k hk]
      split
      · exact fn_lessLead leadW (swW k hk) i
      · rfl
    have swR : ∀ k, k < left.length → ∃ k', k' < left.length ∧ (swapped left r a).getD k [] = left.getD k' [] ∧ (r ≤ k → r ≤ k') := fun k hk => by
      rw [sw k hk]
      by_cases h1 : k = r
      · exact ⟨a, ha, if_pos h1, fun _ => hra⟩
      · rw [if_neg h1]
        by_cases h2 : k = a
        · exact ⟨r, hr, if_pos h2, fun _ => Nat.le_refl _⟩
        · exact ⟨k, hk, if_neg h2, fun z => z⟩
    have leadSp : ∀ x, x = rowAt left a → Sp R x := fun x hx => by rw [hx]; exact h.to a (by omega)
    have len2 : (swept w c r (left.getD a []) (swapped left r a)).length = m := by rw [swept_len, swapped_len]; exact hlen
    have lo : ∀ k, k < r → (swept w c r (left.getD a []) (swapped left r a)).getD k [] = left.getD k [] := fun k hk => by
      rw [L2 k (by omega), if_neg (by omega), sw k (by omega), if_neg (by omega), if_neg (by omega)]
    have atr : (swept w c r (left.getD a []) (swapped left r a)).getD r [] = left.getD a [] := by
      rw [L2 r hr, if_neg (by omega), sw r hr, if_pos rfl]
    refine ⟨len2, fun k hk => ?_, (by show r + 1 ≤ m; omega), (by have := h.lc; show r + 1 ≤ c + 1; have : r ≤ c := h.lc; omega), fun k hk => ?_, fun v hv => ?_, ?_, fun k hk hkm j hj => ?_⟩
    · show ((swept w c r (left.getD a []) (swapped left r a)).getD k []).length = w
      rw [L2 k (by omega)]
      split
      · exact lessLead_len
      · exact swW k (by omega)
    · obtain ⟨k', hk', ek, _⟩ := swR k (by omega)
      have a1 : Sp R (fn ((swapped left r a).getD k [])) := by rw [ek]; exact h.to k' (by omega)
      by_cases hrk : r < k
      · exact (a1.axpy (-1 * (fn ((swapped left r a).getD k []) c * Fl.inv (fn (left.getD a []) c))) (h.to a (by omega))).of_eq fun i => ((F k (by omega) i).trans (if_pos hrk)).symm
      · exact a1.of_eq fun i => ((F k (by omega) i).trans (if_neg hrk)).symm
    · -- back
      refine (h.back v hv).trans fun x hx => ?_
      obtain ⟨k, hk, rfl⟩ := mem_map_fn hx
      have mem2 : ∀ k, k < left.length → rowAt (swept w c r (left.getD a []) (swapped left r a)) k ∈ (swept w c r (left.getD a []) (swapped left r a)).map fn := fun k hk => rowAt_mem (by omega)
      have leadIn : Sp ((swept w c r (left.getD a []) (swapped left r a)).map fn) (fn (left.getD a [])) := by
        refine (Sp.mem (mem2 r hr)).of_eq fun i => ?_
        show fn ((swept w c r (left.getD a []) (swapped left r a)).getD r []) i = _
        rw [atr]
      have swIn : ∀ k, k < left.length → Sp ((swept w c r (left.getD a []) (swapped left r a)).map fn) (fn ((swapped left r a).getD k [])) := fun k hk => by
        by_cases hrk : r < k
        · refine ((Sp.mem (mem2 k hk)).axpy (fn ((swapped left r a).getD k []) c * Fl.inv (fn (left.getD a []) c)) leadIn).of_eq fun i => ?_
          rw [F k hk i, if_pos hrk]; grind
        · refine (Sp.mem (mem2 k hk)).of_eq fun i => ?_
          rw [F k hk i, if_neg hrk]
      show Sp _ (fn (left.getD k []))
      by_cases h1 : k = a
      · rw [h1]; exact leadIn
      · by_cases h2 : k = r
        · have q := swIn a ha
          rw [sw a ha] at q
          by_cases h3 : a = r
          · exact absurd (h2.trans h3.symm) h1
          · rw [if_neg h3, if_pos rfl] at q
            rw [h2]; exact q
        · have q := swIn k hk
          rw [sw k hk, if_neg h2, if_neg h1] at q
          exact q
    · obtain ⟨ps, p1, p2, p3, p4⟩ := h.ech
      refine ⟨ps ++ [(c, fn (left.getD a []))], by rw [List.length_append, p1]; rfl, p2.snoc hne fun p hp => ?_, fun p hp => ?_, ?_⟩
      · exact h.zero a hra (by omega) p.1 (p3 p hp)
      · rcases List.mem_append.mp hp with z | z
        · exact Nat.lt_succ_of_lt (p3 p z)
        · have z : p = _ := List.mem_singleton.mp z
          subst z
          exact Nat.lt_succ_self _
      · show _ = ((swept w c r (left.getD a []) (swapped left r a)).take (r + 1)).map fn
        rw [List.map_append, p4]
        have e1 : (swept w c r (left.getD a []) (swapped left r a)).take (r + 1) = left.take r ++ [left.getD a []] := by
          apply List.ext_getElem
          · rw [List.length_take, List.length_append, List.length_take]
            show min (r + 1) _ = min r left.length + 1
            omega
          · intro i h1 h2
            rw [List.length_take] at h1
            have hi : i < (swept w c r (left.getD a []) (swapped left r a)).length := by omega
            rw [List.getElem_take, ← getD_lt (d := []) hi]
            by_cases hir : i < r
            · rw [lo i hir, List.getElem_append_left (by rw [List.length_take]; omega), List.getElem_take, getD_lt (by omega)]
            · have : i = r := by omega
              subst this
              rw [atr, List.getElem_append_right (by rw [List.length_take]; omega)]
              simp
        rw [e1, List.map_append]
        rfl
    · -- zeros
      have hk : r + 1 ≤ k := hk
      show rowAt (swept w c r (left.getD a []) (swapped left r a)) k j = 0
      rw [F k (by omega) j, if_pos (by omega)]
      obtain ⟨k', hk', ek, hrk'⟩ := swR k (by omega)
      rw [ek]
      by_cases hj' : j < c
      · have z1 := h.zero k' (hrk' (by omega)) (by omega) j hj'
        have z2 := h.zero a hra (by omega) j hj'
        unfold rowAt at z1 z2
        rw [z1, z2]; grind
      · have : j = c := by omega
        subst this
        grind
theorem lawFold_ok {R : List (Vc α)} {w m : Nat} : ∀ (n c : Nat) (s : List (List α) × Nat), LOk R w m c s → c + n ≤ w → LOk R w m (c + n) ((List.range' c n).foldl (lawTurn w) s)
  | 0, c, s, h, _ => h
  | n + 1, c, s, h, hn => by
    rw [List.range'_succ, List.foldl_cons]
    have := lawFold_ok n (c + 1) _ (lawTurn_ok h (by omega)) (by omega)
    rw [show c + (n + 1) = c + 1 + n by omega]
    exact this
/-- THE TWO RANKS -/
theorem lawRank_eq {w : Nat} {rows : List (List α)} (hw : ∀ r ∈ rows, r.length = w) : lawRank rows = (redKept rows).length := by
  cases rows with
  | nil => rfl
  | cons r0 rest =>
    have e0 : ((r0 :: rest).getD 0 []).length = w := hw r0 List.mem_cons_self
    generalize hrows : r0 :: rest = rows at hw e0 ⊢
    unfold lawRank
    rw [e0, List.range_eq_range']
    have start : LOk (rows.map fn) w rows.length 0 (rows, 0) :=
      ⟨rfl, fun k hk => hw _ (getD_mem hk), Nat.zero_le _, Nat.le_refl _, fun k hk => .mem (rowAt_mem hk), fun v hv => .mem hv, ⟨[], rfl, ⟨fun p hp => absurd hp List.not_mem_nil, List.Pairwise.nil⟩, fun p hp => absurd hp List.not_mem_nil, rfl⟩, fun _ _ _ j hj => absurd hj (Nat.not_lt_zero j)⟩
    have fin := lawFold_ok w 0 _ start (by omega)
    rw [Nat.zero_add] at fin
    generalize (List.range' 0 w).foldl (lawTurn w) (rows, 0) = s at fin ⊢
    obtain ⟨ps, p1, p2, _, p4⟩ := fin.ech
    have i1 := p2.ind
    rw [p4] at i1
    have key := redKept_len hw i1 (fun u hu => ?_) (fun r hr => ?_)
    · rw [← key, List.length_map, List.length_take, fin.len]
      have := fin.le
      omega
    · obtain ⟨x, hx, rfl⟩ := List.mem_map.mp hu
      obtain ⟨k, hk, ek⟩ := List.getElem_of_mem (List.mem_of_mem_take hx)
      have := fin.to k (by rw [← fin.len]; exact hk)
      unfold rowAt at this
      rw [getD_lt hk, ek] at this
      exact this
    · refine (fin.back _ (List.mem_map.mpr ⟨r, hr, rfl⟩)).trans fun x hx => ?_
      obtain ⟨k, hk, rfl⟩ := mem_map_fn hx
      by_cases hks : k < s.2
      · refine .mem (List.mem_map.mpr ⟨s.1.getD k [], ?_, rfl⟩)
        have hk2 : k < (s.1.take s.2).length := by rw [List.length_take]; omega
        rw [getD_lt hk]
        have : (s.1.take s.2)[k] = s.1[k] := List.getElem_take
        rw [← this]
        exact List.getElem_mem hk2
      · refine Sp.zero.of_eq fun j => ?_
        by_cases hj : j < w
        · exact (fin.zero k (by omega) (by rw [← fin.len]; exact hk) j hj).symm
        · have := fin.wid k (by rw [← fin.len]; exact hk)
          exact (fn_ge (by omega)).symm
end
end M26

end

/-! ## MathD -/
section
set_option linter.all false
/-! Sums; rows that undo; bounds by common forms. -/
namespace M26
section
variable {α : Type} [Fl α]
theorem lc_snoc : ∀ {ws : List α} {vs : List (Vc α)} {v : Vc α} (i : Nat), lc ws (vs ++ [v]) i = lc ws vs i + fn ws vs.length * v i
  | [], vs, v, i => by rw [lc_nil_l, lc_nil_l, fn_ge (Nat.zero_le _)]; grind
  | w :: ws, [], v, i => by
    show w * v i + lc ws [] i = 0 + w * v i
    rw [lc_nil_r]; grind
  | w :: ws, u :: vs, v, i => by
    have ih := lc_snoc (ws := ws) (vs := vs) (v := v) i
    show w * u i + lc ws (vs ++ [v]) i = (w * u i + lc ws vs i) + fn ws vs.length * v i
    rw [ih]; grind
/-- the law's sum, behind k rows -/
def sumTo (ws : List α) (rows : List (List α)) (width k : Nat) : List α :=
  (List.range k).foldl (fun total k => (List.range width).map fun i => fn total i + fn ws k * fn (rows.getD k []) i) (List.replicate width 0)
theorem sumTo_zero {ws : List α} {rows : List (List α)} {width : Nat} : sumTo ws rows width 0 = List.replicate width 0 := rfl
theorem sumTo_succ {ws : List α} {rows : List (List α)} {width k : Nat} : sumTo ws rows width (k + 1) = (List.range width).map fun i => fn (sumTo ws rows width k) i + fn ws k * fn (rows.getD k []) i := by
  unfold sumTo
  rw [List.range_succ, List.foldl_append]; rfl
theorem lawSum_to {ws : List α} {rows : List (List α)} {width : Nat} : lawSum ws rows width = sumTo ws rows width rows.length := rfl
theorem sumTo_len {ws : List α} {rows : List (List α)} {width k : Nat} : (sumTo ws rows width k).length = width := by
  cases k with
  | zero => rw [sumTo_zero, List.length_replicate]
  | succ k => rw [sumTo_succ, List.length_map, List.length_range]
theorem fn_sumTo {ws : List α} {rows : List (List α)} {width : Nat} : ∀ {k : Nat}, k ≤ rows.length → ∀ i, fn (sumTo ws rows width k) i = if i < width then lc ws ((rows.take k).map fn) i else 0
  | 0, _, i => by
    rw [sumTo_zero, List.take_zero, List.map_nil, lc_nil_r]
    have : fn (List.replicate width (0 : α)) i = 0 := fn_zeroRow i
    rw [this]; split <;> rfl
  | k + 1, h, i => by
    rw [sumTo_succ, fn_map_range]
    by_cases hi : i < width
    · rw [if_pos hi, if_pos hi, fn_sumTo (k := k) (by omega) i, if_pos hi]
      have e : rows.take (k + 1) = rows.take k ++ [rows.getD k []] := by
        rw [List.take_add_one, List.getElem?_eq_getElem (by omega), getD_lt (by omega)]; rfl
      rw [e, List.map_append]
      show _ = lc ws (List.map fn (List.take k rows) ++ [fn (rows.getD k [])]) i
      rw [lc_snoc]
      have l : (List.map fn (List.take k rows)).length = k := by rw [List.length_map, List.length_take]; omega
      rw [l]
    · rw [if_neg hi, if_neg hi]
theorem fn_lawSum {ws : List α} {rows : List (List α)} {width : Nat} (i : Nat) : fn (lawSum ws rows width) i = if i < width then lc ws (rows.map fn) i else 0 := by
  rw [lawSum_to, fn_sumTo (Nat.le_refl _) i, List.take_length]
theorem lawSum_len {ws : List α} {rows : List (List α)} {width : Nat} : (lawSum ws rows width).length = width := sumTo_len
theorem lc_wide {ws : List α} {rows : List (List α)} {width : Nat} (hw : ∀ r ∈ rows, r.length = width) {i : Nat} (hi : width ≤ i) : lc ws (rows.map fn) i = 0 := lc_at_zero fun v hv => by
  obtain ⟨r, hr, rfl⟩ := List.mem_map.mp hv
  exact fn_ge (by rw [hw r hr]; exact hi)
theorem fn_lawSum' {ws : List α} {rows : List (List α)} {width : Nat} (hw : ∀ r ∈ rows, r.length = width) (i : Nat) : fn (lawSum ws rows width) i = lc ws (rows.map fn) i := by
  rw [fn_lawSum]
  by_cases hi : i < width
  · rw [if_pos hi]
  · rw [if_neg hi, lc_wide hw (by omega)]
/-- the program's sum, from acc -/
theorem wsum_from {width : Nat} : ∀ {ws : List α} {rows : List (List α)} {acc : List α}, (∀ r ∈ rows, r.length = width) → acc.length = width →
    ((ws.zip rows).foldl (fun total p => rowPlus total p.1 p.2) acc).length = width ∧ ∀ i, fn ((ws.zip rows).foldl (fun total p => rowPlus total p.1 p.2) acc) i = fn acc i + lc ws (rows.map fn) i
  | [], rows, acc, _, ha => ⟨ha, fun i => by rw [lc_nil_l, List.zip_nil_left]; show fn acc i = _; grind⟩
  | w :: ws, [], acc, _, ha => ⟨ha, fun i => by rw [List.map_nil, lc_nil_r]; show fn acc i = _; grind⟩
  | w :: ws, r :: rows, acc, h, ha => by
    have hr := h r List.mem_cons_self
    obtain ⟨a, b⟩ := wsum_from (ws := ws) (rows := rows) (acc := rowPlus acc w r) (fun x hx => h x (List.mem_cons_of_mem _ hx)) (by rw [rowPlus_len (by omega)]; exact ha)
    refine ⟨a, fun i => (b i).trans ?_⟩
    rw [fn_rowPlus (by omega), List.map_cons, lc_cons]; grind
theorem wsum_eq {width : Nat} {ws : List α} {rows : List (List α)} (h : ∀ r ∈ rows, r.length = width) : wsum ws rows width = lawSum ws rows width := by
  obtain ⟨a, b⟩ := wsum_from (ws := ws) (rows := rows) (acc := zeroRow width) h (by unfold zeroRow; rw [List.length_replicate])
  refine fn_ext (by rw [lawSum_len]; exact a) fun i _ => ?_
  rw [fn_lawSum' h]
  refine (b i).trans ?_
  rw [fn_zeroRow]; grind

/-! ### one row more: the rank grows where the row is no sum -/
theorem redKept_snoc_len {w : Nat} {rows : List (List α)} {row : List α} (hw : ∀ r ∈ rows, r.length = w) (hr : row.length = w) :
    (lawRank (rows ++ [row]) = lawRank rows) ↔ Sp (rows.map fn) (fn row) := by
  have hw2 : ∀ r ∈ rows ++ [row], r.length = w := fun r h => by
    rcases List.mem_append.mp h with z | z
    · exact hw r z
    · rw [List.mem_singleton.mp z]; exact hr
  rw [lawRank_eq hw2, lawRank_eq hw]
  obtain ⟨a, b⟩ := redKept_ok hw
  have spEq : ∀ u, Sp ((rows ++ [row]).map fn) u ↔ Sp (fn row :: rows.map fn) u := fun u => by
    rw [List.map_append]
    exact ⟨fun h => h.mono fun v hv => by
      rcases List.mem_append.mp hv with z | z
      · exact List.mem_cons_of_mem _ z
      · rw [List.mem_singleton.mp z]; exact List.mem_cons_self, fun h => h.mono fun v hv => by
      rcases List.mem_cons.mp hv with z | z
      · exact List.mem_append_right _ (List.mem_singleton.mpr z)
      · exact List.mem_append_left _ z⟩
  constructor
  · intro e
    refine Classical.byContradiction fun hn => ?_
    -- kept and the rest of the row are unbound
    obtain ⟨q1, q2, _, q4, q5⟩ := elim_row (row := row) (u := zeroRow rows.length) a hr (by unfold zeroRow; rw [List.length_replicate])
    generalize (redKept rows).foldl elim (row, zeroRow rows.length) = s at q1 q2 q4 q5
    cases el : leadOf s.1 with
    | none =>
      refine hn ((b _).mp ((q5.smul (-1)).of_eq fun i => ?_))
      rw [leadOf_none el i]; grind
    | some j =>
      obtain ⟨hj, hne⟩ := leadOf_some el
      have ec := a.ech'.snoc (l := j) (x := fn s.1) hne fun p hp => by
        obtain ⟨k, hk, rfl⟩ := List.mem_map.mp hp
        exact q4 k hk
      have key := redKept_len hw2 (us := (steps (redKept rows) ++ [(j, fn s.1)]).map (·.2)) ec.ind (fun u hu => ?_) (fun r hr' => ?_)
      · rw [List.length_map, List.length_append] at key
        unfold steps at key
        rw [List.length_map] at key
        have : [(j, fn s.1)].length = 1 := rfl
        omega
      · rw [List.map_append, steps_map] at hu
        refine (spEq u).mpr ?_
        have lo : ∀ x, Sp ((redKept rows).map fun k => fn k.2.1) x → Sp (fn row :: rows.map fn) x := fun x hx => ((b x).mp hx).mono fun v hv => List.mem_cons_of_mem _ hv
        rcases List.mem_append.mp hu with z | z
        · exact lo _ (.mem z)
        · have z : u = fn s.1 := List.mem_singleton.mp z
          rw [z]
          refine ((lo _ q5).axpy 1 (Sp.mem (List.mem_cons_self (a := fn row)))).of_eq fun i => ?_
          grind
      · rw [List.map_append, steps_map]
        have lo : ∀ x, Sp ((redKept rows).map fun k => fn k.2.1) x → Sp ((redKept rows).map (fun k => fn k.2.1) ++ [(j, fn s.1)].map (·.2)) x := fun x hx => hx.mono fun v hv => List.mem_append_left _ hv
        rcases List.mem_append.mp hr' with z | z
        · exact lo _ ((b _).mpr (.mem (List.mem_map.mpr ⟨r, z, rfl⟩)))
        · rw [List.mem_singleton.mp z]
          refine (((lo _ q5).smul (-1)).axpy 1 (Sp.mem (List.mem_append_right _ (List.mem_singleton.mpr rfl)))).of_eq fun i => ?_
          show _ * (_ + _) + 1 * fn s.1 i = _
          grind
  · intro hs
    refine (redKept_len hw2 (us := (steps (redKept rows)).map (·.2)) a.ech'.ind (fun u hu => ?_) (fun r hr' => ?_)).symm.trans (by unfold steps; rw [List.length_map, List.length_map])
    · rw [steps_map] at hu
      exact (spEq u).mpr (((b u).mp (.mem hu)).mono fun v hv => List.mem_cons_of_mem _ hv)
    · rw [steps_map]
      rcases List.mem_append.mp hr' with z | z
      · exact (b _).mpr (.mem (List.mem_map.mpr ⟨r, z, rfl⟩))
      · rw [List.mem_singleton.mp z]
        exact (b _).mpr hs
theorem lawRank_le {w : Nat} {rows : List (List α)} (hw : ∀ r ∈ rows, r.length = w) : lawRank rows ≤ rows.length := by
  rw [lawRank_eq hw]
  obtain ⟨a, b⟩ := redKept_ok hw
  have := steinitz (rows.map fn) _ a.ech'.ind fun u hu => by
    rw [steps_map] at hu
    exact (b u).mp (.mem hu)
  rw [steps_map, List.length_map, List.length_map] at this
  exact this

/-! ### rows that undo -/
theorem units_ind (n : Nat) : Ind ((unitRows n : List (List α)).map fn) := by
  intro ws hl hz
  rw [List.length_map, unitRows_len] at hl
  have key : ∀ i, i < n → fn ws i = 0 := fun i hi => by
    have h := hz i
    have e : ∀ (k s : Nat) (ws : List α), ws.length = k → lc ws ((List.range' s k).map fun j => fn (unitRow n j)) i = if s ≤ i then fn ws (i - s) else 0 := by
      intro k
      induction k with
      | zero =>
        intro s ws hl
        have : ws = [] := List.length_eq_zero_iff.mp hl
        subst this
        rw [lc_nil_l]
        split
        · exact (fn_ge (Nat.zero_le _)).symm
        · rfl
      | succ k ih =>
        intro s ws hl
        cases ws with
        | nil => simp at hl
        | cons w ws =>
          rw [List.range'_succ, List.map_cons, lc_cons, ih (s + 1) ws (by simpa using hl), fn_unitRow]
          by_cases h1 : s = i
          · subst h1
            rw [if_pos ⟨hi, rfl⟩, if_neg (by omega), if_pos (Nat.le_refl _), Nat.sub_self]
            show _ = w
            grind
          · rw [if_neg fun z => h1 z.2]
            by_cases h2 : s + 1 ≤ i
            · rw [if_pos h2, if_pos (by omega)]
              have e : i - s = (i - (s + 1)) + 1 := by omega
              rw [e]
              show _ = fn ws (i - (s + 1))
              grind
            · rw [if_neg h2, if_neg (by omega)]; grind
    have q := e n 0 ws hl
    rw [if_pos (Nat.zero_le _), Nat.sub_zero] at q
    rw [← q]
    have : (unitRows n : List (List α)).map fn = (List.range' 0 n).map fun j => fn (unitRow n j) := by
      unfold unitRows; rw [List.map_map, List.range_eq_range']; rfl
    rw [this] at h
    exact h
  intro w hw
  obtain ⟨i, hi, e⟩ := List.getElem_of_mem hw
  have := key i (by omega)
  rw [fn_lt hi, e] at this
  exact this
/-- every row of width n is in the span of the units -/
theorem units_span {n : Nat} {row : List α} (h : row.length = n) : Sp ((unitRows n : List (List α)).map fn) (fn row) := by
  have := Sp.lc (vs := (unitRows n : List (List α)).map fn) row ((unitRows n : List (List α)).map fn) fun u hu => .mem hu
  refine this.of_eq fun i => ?_
  by_cases hi : i < n
  · have key : ∀ (k s : Nat) (row : List α), row.length = k → lc row ((List.range' s k).map fun j => fn (unitRow n j)) i = if s ≤ i then fn row (i - s) else 0 := by
      intro k
      induction k with
      | zero =>
        intro s ws hl
        have : ws = [] := List.length_eq_zero_iff.mp hl
        subst this
        rw [lc_nil_l]
        split
        · exact (fn_ge (Nat.zero_le _)).symm
        · rfl
      | succ k ih =>
        intro s ws hl
        cases ws with
        | nil => simp at hl
        | cons w ws =>
          rw [List.range'_succ, List.map_cons, lc_cons, ih (s + 1) ws (by simpa using hl), fn_unitRow]
          by_cases h1 : s = i
          · subst h1
            rw [if_pos ⟨hi, rfl⟩, if_neg (by omega), if_pos (Nat.le_refl _), Nat.sub_self]
            show _ = w
            grind
          · rw [if_neg fun z => h1 z.2]
            by_cases h2 : s + 1 ≤ i
            · rw [if_pos h2, if_pos (by omega)]
              have e : i - s = (i - (s + 1)) + 1 := by omega
              rw [e]
              show _ = fn ws (i - (s + 1))
              grind
            · rw [if_neg h2, if_neg (by omega)]; grind
    have q := key n 0 row h
    rw [if_pos (Nat.zero_le _), Nat.sub_zero] at q
    have : (unitRows n : List (List α)).map fn = (List.range' 0 n).map fun j => fn (unitRow n j) := by
      unfold unitRows; rw [List.map_map, List.range_eq_range']; rfl
    rw [this]
    exact q
  · rw [fn_ge (xs := row) (by omega)]
    exact lc_wide (width := n) (fun r hr => by
      obtain ⟨j, _, e⟩ := List.mem_map.mp hr
      rw [← e]; exact unitRow_len) (by omega)
theorem unit_mem {n i : Nat} (hi : i < n) : (unitRow n i : List α) ∈ (unitRows n : List (List α)) := List.mem_map.mpr ⟨i, List.mem_range.mpr hi, rfl⟩
/-- all units are sums: the rank is full -/
theorem undo_full {n : Nat} {rows : List (List α)} (hn : rows.length = n) (hw : ∀ r ∈ rows, r.length = n) (h : ∀ i, i < n → weightsFor rows (unitRow n i) ≠ none) : ¬ lawRank rows < n := by
  rw [lawRank_eq hw]
  obtain ⟨a, b⟩ := redKept_ok hw
  have := steinitz ((redKept rows).map fun k => fn k.2.1) _ (units_ind (α := α) n) fun u hu => by
    obtain ⟨x, hx, rfl⟩ := List.mem_map.mp hu
    obtain ⟨i, hi, rfl⟩ := List.mem_map.mp hx
    refine (b _).mpr (Classical.byContradiction fun z => h i (List.mem_range.mp hi) ((weightsFor_none hw unitRow_len).mpr z))
  rw [List.length_map, unitRows_len, List.length_map] at this
  omega
/-- a unit that is no sum: the rank is less -/
theorem undo_less {n i : Nat} {rows : List (List α)} (hn : rows.length = n) (hw : ∀ r ∈ rows, r.length = n) (hi : i < n) (h : weightsFor rows (unitRow n i) = none) : lawRank rows < n := by
  have hz := (weightsFor_none hw unitRow_len).mp h
  have h1 := (redKept_snoc_len (row := unitRow n i) hw unitRow_len)
  have hw2 : ∀ r ∈ rows ++ [unitRow n i], r.length = n := fun r h => by
    rcases List.mem_append.mp h with z | z
    · exact hw r z
    · rw [List.mem_singleton.mp z]; exact unitRow_len
  -- the bigger one is at most n, and it is another than the smaller one, which is at most it
  have le : ∀ {rs : List (List α)}, (∀ r ∈ rs, r.length = n) → lawRank rs ≤ n := fun {rs} hrs => by
    rw [lawRank_eq hrs]
    obtain ⟨a, b⟩ := redKept_ok hrs
    have := steinitz ((unitRows n : List (List α)).map fn) _ a.ech'.ind fun u hu => by
      rw [steps_map] at hu
      refine ((b u).mp (.mem hu)).trans fun v hv => ?_
      obtain ⟨r, hr, rfl⟩ := List.mem_map.mp hv
      exact units_span (hrs r hr)
    rw [steps_map, List.length_map, List.length_map, unitRows_len] at this
    exact this
  have big := le hw2
  have mono : lawRank rows ≤ lawRank (rows ++ [unitRow n i]) := by
    rw [lawRank_eq hw, lawRank_eq hw2]
    obtain ⟨a, b⟩ := redKept_ok hw
    obtain ⟨a2, b2⟩ := redKept_ok hw2
    have := steinitz ((redKept (rows ++ [unitRow n i])).map fun k => fn k.2.1) _ a.ech'.ind fun u hu => by
      rw [steps_map] at hu
      refine (b2 u).mpr (((b u).mp (.mem hu)).mono fun v hv => ?_)
      rw [List.map_append]; exact List.mem_append_left _ hv
    rw [steps_map, List.length_map, List.length_map] at this
    exact this
  have ne : ¬ lawRank (rows ++ [unitRow n i]) = lawRank rows := fun e => hz (h1.mp e)
  omega
/-- lists of sums -/
theorem lc_lc {R : List (Vc α)} {m : Nat} : ∀ (a : List α) (T : List (List α)), (∀ t ∈ T, t.length = m) → ∀ i, lc (lawSum a T m) R i = lc a (T.map fun t => lc t R) i := by
  intro a T hT i
  have key : ∀ (T : List (List α)) (a acc : List α), (∀ t ∈ T, t.length = m) → acc.length = m → lc ((a.zip T).foldl (fun total p => rowPlus total p.1 p.2) acc) R i = lc acc R i + lc a (T.map fun t => lc t R) i := by
    intro T
    induction T with
    | nil =>
      intro a acc _ _
      rw [List.zip_nil_right, List.map_nil, lc_nil_r]
      show lc acc R i = _
      grind
    | cons t T ih =>
      intro a acc hT ha
      cases a with
      | nil =>
        rw [List.zip_nil_left, lc_nil_l]
        show lc acc R i = _
        grind
      | cons w a =>
        have ht := hT t List.mem_cons_self
        have l : acc.length = (w, t).2.length := by show acc.length = t.length; omega
        rw [List.zip_cons_cons, List.foldl_cons, ih a _ (fun x hx => hT x (List.mem_cons_of_mem _ hx)) (by rw [rowPlus_len l]; exact ha), lc_axpy i l, List.map_cons, lc_cons]
        grind
  have e := wsum_eq (ws := a) hT
  unfold wsum at e
  rw [← e, key T a _ hT (by unfold zeroRow; rw [List.length_replicate]), lc_zeroRow]
  grind
theorem rows_ind {n : Nat} {rows : List (List α)} (hn : rows.length = n) (hw : ∀ r ∈ rows, r.length = n) (h : ∀ i, i < n → Sp (rows.map fn) (fn (unitRow n i))) : Ind (rows.map fn) := by
  intro ws hl hz w hwm
  refine Classical.byContradiction fun hne => ?_
  rw [List.length_map] at hl
  obtain ⟨j, hj, e⟩ := List.getElem_of_mem hwm
  have hj' : j < rows.length := by omega
  -- the j-th row is a sum of the others
  have s1 : rows = rows.take j ++ rows[j] :: rows.drop (j + 1) := by
    rw [← List.drop_eq_getElem_cons hj', List.take_append_drop]
  have s2 : ws = ws.take j ++ w :: ws.drop (j + 1) := by
    rw [← e, ← List.drop_eq_getElem_cons hj, List.take_append_drop]
  have hm := Fl.mul_inv w hne
  have l1 : (ws.take j).length = ((rows.take j).map fn).length := by rw [List.length_take, List.length_map, List.length_take]; omega
  have sj : Sp ((rows.take j ++ rows.drop (j + 1)).map fn) (fn rows[j]) := by
    have a1 := Sp.lc (vs := (rows.take j ++ rows.drop (j + 1)).map fn) (ws.take j) ((rows.take j).map fn) fun u hu => .mem (by rw [List.map_append]; exact List.mem_append_left _ hu)
    have a2 := Sp.lc (vs := (rows.take j ++ rows.drop (j + 1)).map fn) (ws.drop (j + 1)) ((rows.drop (j + 1)).map fn) fun u hu => .mem (by rw [List.map_append]; exact List.mem_append_right _ hu)
    refine ((a1.axpy 1 a2).smul (-(Fl.inv w))).of_eq fun i => ?_
    have q := hz i
    rw [s2, s1, List.map_append, List.map_cons, lc_append i l1, lc_cons] at q
    grind
  have allIn : ∀ v ∈ rows.map fn, Sp ((rows.take j ++ rows.drop (j + 1)).map fn) v := fun v hv => by
    rw [s1, List.map_append, List.map_cons] at hv
    rcases List.mem_append.mp hv with z | z
    · exact .mem (by rw [List.map_append]; exact List.mem_append_left _ z)
    · rcases List.mem_cons.mp z with z | z
      · rw [z]; exact sj
      · exact .mem (by rw [List.map_append]; exact List.mem_append_right _ z)
  have := steinitz ((rows.take j ++ rows.drop (j + 1)).map fn) _ (units_ind (α := α) n) fun u hu => by
    obtain ⟨x, hx, rfl⟩ := List.mem_map.mp hu
    obtain ⟨i, hi, rfl⟩ := List.mem_map.mp hx
    exact (h i (List.mem_range.mp hi)).trans allIn
  rw [List.length_map, unitRows_len, List.length_map, List.length_append, List.length_take, List.length_drop] at this
  omega
/-- what undoes from the left undoes from the right -/
theorem undo_right {n : Nat} {rows T : List (List α)} (hn : rows.length = n) (hw : ∀ r ∈ rows, r.length = n) (hT : T.length = n) (hTw : ∀ t ∈ T, t.length = n)
    (h : ∀ i, i < n → ∀ c, lc (T.getD i []) (rows.map fn) c = fn (unitRow n i) c) : ∀ i, i < n → lawSum (rows.getD i []) T n = unitRow n i := by
  have hS : ∀ i, i < n → Sp (rows.map fn) (fn (unitRow n i)) := fun i hi =>
    (Sp.lc (vs := rows.map fn) (T.getD i []) (rows.map fn) fun u hu => .mem hu).of_eq (h i hi)
  have hI := rows_ind hn hw hS
  intro i hi
  have hri : (rows.getD i []).length = n := hw _ (getD_mem (by omega))
  -- the difference sums the rows to zero
  have l1 : (lawSum (rows.getD i []) T n).length = (unitRow n i : List α).length := by rw [lawSum_len, unitRow_len]
  have z : ∀ c, lc (rowPlus (lawSum (rows.getD i []) T n) (-1) (unitRow n i)) (rows.map fn) c = 0 := fun c => by
    rw [lc_axpy c l1, lc_lc (m := n) _ _ hTw, lc_fn_unit hi _ (by rw [List.length_map]; exact hn)]
    have e1 : lc (rows.getD i []) (T.map fun t => lc t (rows.map fn)) c = fn (rows.getD i []) c := by
      have e2 : (T.map fun t => lc t (rows.map fn)).map (· c) = ((unitRows n : List (List α)).map fn).map (· c) := by
        apply List.ext_getElem
        · rw [List.length_map, List.length_map, List.length_map, List.length_map, unitRows_len, hT]
        · intro k h1 h2
          rw [List.length_map, List.length_map] at h1
          have := h k (by omega) c
          rw [getD_lt h1] at this
          simp only [List.getElem_map]
          rw [this]
          simp [unitRows]
      rw [lc_congr e2]
      -- the sum of the units with the row's numbers is the row
      have key : ∀ (k s : Nat) (row : List α), row.length = k → lc row ((List.range' s k).map fun j => fn (unitRow n j)) c = if s ≤ c ∧ c < n then fn row (c - s) else 0 := by
        intro k
        induction k with
        | zero =>
          intro s ws hl
          have : ws = [] := List.length_eq_zero_iff.mp hl
          subst this
          rw [lc_nil_l]
          split
          · exact (fn_ge (Nat.zero_le _)).symm
          · rfl
        | succ k ih =>
          intro s ws hl
          cases ws with
          | nil => simp at hl
          | cons w ws =>
            rw [List.range'_succ, List.map_cons, lc_cons, ih (s + 1) ws (by simpa using hl), fn_unitRow]
            by_cases h1 : c < n ∧ s = c
            · obtain ⟨hc, h1⟩ := h1
              subst h1
              rw [if_pos ⟨hc, rfl⟩, if_neg (by omega), if_pos ⟨Nat.le_refl _, hc⟩, Nat.sub_self]
              show _ = w
              grind
            · rw [if_neg h1]
              by_cases h2 : s + 1 ≤ c ∧ c < n
              · rw [if_pos h2, if_pos (by omega)]
                have e : c - s = (c - (s + 1)) + 1 := by omega
                rw [e]
                show _ = fn ws (c - (s + 1))
                grind
              · rw [if_neg h2, if_neg (by omega)]; grind
      have q := key n 0 (rows.getD i []) hri
      have e3 : (unitRows n : List (List α)).map fn = (List.range' 0 n).map fun j => fn (unitRow n j) := by
        unfold unitRows; rw [List.map_map, List.range_eq_range']; rfl
      rw [e3, q]
      by_cases hc : c < n
      · rw [if_pos ⟨Nat.zero_le _, hc⟩, Nat.sub_zero]
      · rw [if_neg fun z => hc z.2, fn_ge (by omega)]
    have e4 : (rows.map fn).getD i (fun _ => 0) = fn (rows.getD i []) := by
      rw [getD_lt (by rw [List.length_map]; omega), getD_lt (by omega), List.getElem_map]
    rw [e1, e4]
    grind
  have z2 := hI _ (by rw [rowPlus_len l1, lawSum_len, List.length_map, hn]) z
  refine fn_ext l1 fun c hc => ?_
  have hc' : c < (rowPlus (lawSum (rows.getD i []) T n) (-1) (unitRow n i)).length := by rw [rowPlus_len l1]; exact hc
  have z3 := z2 _ (List.getElem_mem hc')
  rw [← fn_lt hc', fn_rowPlus l1] at z3
  grind
end
end M26

end

/-! ## MathE -/
section
set_option linter.all false
/-! Bounds: rows as whole numbers over one whole number. -/
namespace M26
/-- a field of the program: its prime (0: the fractions), whole numbers of it below 2 ^ n, what is small -/
class Fd (α : Type) extends Fl α where
  p : Int
  Z : Nat → α → Prop
  six : α
  Sm : α → Prop
  six_ne : six ≠ 0
  z_six : Z 3 six
  z_zero : ∀ n, Z n 0
  z_one : Z 1 1
  z_mono : ∀ {n m : Nat} {x : α}, n ≤ m → Z n x → Z m x
  z_neg : ∀ {n : Nat} {x : α}, Z n x → Z n (-x)
  z_add : ∀ {n : Nat} {x y : α}, Z n x → Z n y → Z (n + 1) (x + y)
  z_mul : ∀ {n m : Nat} {x y : α}, Z n x → Z m y → Z (n + m) (x * y)
  sm_of : ∀ {D x : α}, D ≠ 0 → Z 4500 D → Z 4500 (D * x) → Sm x
section
variable {α : Type} [Fd α]
open Fd
theorem ne_mul {a b : α} (ha : a ≠ 0) (hb : b ≠ 0) : a * b ≠ 0 := fun z => ha (mul_eq_zero z hb)
/-- all of them over D, below 2 ^ n -/
structure Cf (D : α) (n : Nat) (xs : List α) : Prop where
  ne : D ≠ 0
  zD : Z n D
  z : ∀ x ∈ xs, Z n (D * x)
theorem Cf.mono {D : α} {n m : Nat} {xs : List α} (h : Cf D n xs) (hn : n ≤ m) : Cf D m xs := ⟨h.ne, z_mono hn h.zD, fun x hx => z_mono hn (h.z x hx)⟩
theorem Cf.sub {D : α} {n : Nat} {xs ys : List α} (h : Cf D n xs) (hs : ∀ x ∈ ys, x ∈ xs) : Cf D n ys := ⟨h.ne, h.zD, fun x hx => h.z x (hs x hx)⟩
theorem Cf.sm {D : α} {n : Nat} {xs : List α} (h : Cf D n xs) (hn : n ≤ 4500) : ∀ x ∈ xs, Sm x := fun x hx => sm_of h.ne (z_mono hn h.zD) (z_mono hn (h.z x hx))
theorem Cf.left {D : α} {n : Nat} {xs ys : List α} (h : Cf D n (xs ++ ys)) : Cf D n xs := h.sub fun _ hx => List.mem_append_left _ hx
theorem Cf.right {D : α} {n : Nat} {xs ys : List α} (h : Cf D n (xs ++ ys)) : Cf D n ys := h.sub fun _ hx => List.mem_append_right _ hx
theorem Cf.app {D : α} {n : Nat} {xs ys : List α} (h : Cf D n xs) (h' : Cf D n ys) : Cf D n (xs ++ ys) := ⟨h.ne, h.zD, fun x hx => (List.mem_append.mp hx).elim (h.z x) (h'.z x)⟩
theorem sm_one : Sm (1 : α) := sm_of (D := 1) Fl.one_ne (z_mono (by omega) z_one) (by
  have e : (1 : α) * 1 = 1 := by grind
  rw [e]; exact z_mono (by omega) z_one)
theorem sm_zero : Sm (0 : α) := sm_of (D := 1) Fl.one_ne (z_mono (by omega) z_one) (by
  have e : (1 : α) * 0 = 0 := by grind
  rw [e]; exact z_zero _)
theorem sm_neg_one : Sm (-1 : α) := sm_of (D := 1) Fl.one_ne (z_mono (by omega) z_one) (by
  have e : (1 : α) * -1 = -1 := by grind
  rw [e]; exact z_neg (z_mono (by omega) z_one))
theorem Cf.at {D : α} {n : Nat} {xs : List α} (h : Cf D n xs) (i : Nat) : Z n (D * fn xs i) := by
  by_cases hi : i < xs.length
  · rw [fn_lt hi]; exact h.z _ (List.getElem_mem hi)
  · rw [fn_ge (by omega)]
    have e : D * 0 = (0 : α) := by grind
    rw [e]; exact z_zero _
theorem Cf.smAt {D : α} {n : Nat} {xs : List α} (h : Cf D n xs) (hn : n ≤ 4500) (i : Nat) : Sm (fn xs i) := sm_of h.ne (z_mono hn h.zD) (z_mono hn (h.at i))
/-- what a row's call asks -/
structure RpOk (row : List α) (w : α) (other : List α) : Prop where
  hr : ∀ x ∈ row, Sm x
  hw : Sm w
  ho : ∀ x ∈ other, Sm x
  hp : ∀ x ∈ other, Sm (w * x)
/-- one elimination step: left's lead place against a step with one there -/
theorem rp_of {D E f : α} {n m : Nat} {us vs : List α} (h : Cf D n us) (g : Cf E m vs) (hf : Z n (D * f)) (hn : n + m ≤ 4500) : RpOk us f vs := by
  refine ⟨h.sm (by omega), sm_of h.ne (z_mono (by omega) h.zD) (z_mono (by omega) hf), g.sm (by omega), fun x hx => ?_⟩
  refine sm_of (ne_mul h.ne g.ne) (z_mono (by omega) (z_mul h.zD g.zD)) ?_
  have e : D * E * (f * x) = (D * f) * (E * x) := by grind
  rw [e]
  exact z_mono (by omega) (z_mul hf (g.z x hx))
theorem rp_cf {D E f : α} {n m : Nat} {us vs : List α} (h : Cf D n us) (g : Cf E m vs) (hf : Z n (D * f)) : Cf (D * E) (n + m + 1) (rowPlus us f vs) := by
  refine ⟨ne_mul h.ne g.ne, z_mono (by omega) (z_mul h.zD g.zD), fun x hx => ?_⟩
  unfold rowPlus at hx
  obtain ⟨i, hi, e⟩ := List.getElem_of_mem hx
  rw [List.getElem_zipWith] at e
  rw [List.length_zipWith] at hi
  have e2 : D * E * x = (D * us[i]) * E + (D * f) * (E * vs[i]) := by rw [← e]; grind
  rw [e2]
  exact z_add (z_mul (h.z _ (List.getElem_mem _)) g.zD) (z_mul hf (g.z _ (List.getElem_mem _)))
theorem z_lead {D : α} {n : Nat} {us : List α} (h : Cf D n us) (l : Nat) : Z n (D * (0 - fn us l)) := by
  have e : D * (0 - fn us l) = -(D * fn us l) := by grind
  rw [e]; exact z_neg (h.at l)
/-- scaled by the number at a place -/
theorem cf_scale {D : α} {n : Nat} {us : List α} {j : Nat} (h : Cf D n us) (hj : fn us j ≠ 0) (vs : List α) (g : Cf D n vs) : Cf (D * fn us j) n (rowTimes vs (Fl.inv (fn us j))) := by
  refine ⟨ne_mul h.ne hj, h.at j, fun x hx => ?_⟩
  unfold rowTimes at hx
  obtain ⟨y, hy, e⟩ := List.mem_map.mp hx
  have hm := Fl.mul_inv _ hj
  have e2 : D * fn us j * x = D * y := by rw [← e]; grind
  rw [e2]
  exact g.z y hy
theorem cf_inv {D : α} {n : Nat} {us : List α} {j : Nat} (h : Cf D n us) (hj : fn us j ≠ 0) (hn : n ≤ 4500) : Sm (Fl.inv (fn us j)) := by
  have hm := Fl.mul_inv _ hj
  refine sm_of (ne_mul h.ne hj) (z_mono hn (h.at j)) ?_
  have e : D * fn us j * Fl.inv (fn us j) = D := by grind
  rw [e]; exact z_mono hn h.zD
/-- 2 n + 1, k times -/
def it : Nat → Nat → Nat
  | 0, n => n
  | k + 1, n => it k (2 * n + 1)
theorem it_ge : ∀ (k n : Nat), n ≤ it k n
  | 0, n => Nat.le_refl n
  | k + 1, n => Nat.le_trans (by omega) (it_ge k (2 * n + 1))
theorem it_mono : ∀ {j k n m : Nat}, j ≤ k → n ≤ m → it j n ≤ it k m
  | 0, k, n, m, _, h => Nat.le_trans h (it_ge k m)
  | j + 1, 0, _, _, h, _ => absurd h (Nat.not_succ_le_zero j)
  | j + 1, k + 1, n, m, h, h' => it_mono (j := j) (k := k) (by omega) (by omega)
theorem it_succ : ∀ (k n : Nat), it (k + 1) n = 2 * it k n + 1
  | 0, _ => rfl
  | k + 1, n => it_succ k (2 * n + 1)
/-- the kept steps' forms: 2 ^ n, 2 ^ (2 n + 1), .. -/
def KB : List (Stp α) → List α → Nat → Prop
  | [], [], _ => True
  | k :: ks, D :: Ds, n => Cf D n (k.2.1 ++ k.2.2) ∧ KB ks Ds (2 * n + 1)
  | _, _, _ => False
def prodOf : List α → α
  | [] => 1
  | D :: Ds => D * prodOf Ds
theorem KB.snoc : ∀ {ks : List (Stp α)} {Ds : List α} {n : Nat} {k : Stp α} {D : α}, KB ks Ds n → Cf D (it ks.length n) (k.2.1 ++ k.2.2) → KB (ks ++ [k]) (Ds ++ [D]) n
  | [], [], _, _, _, _, h => ⟨h, trivial⟩
  | _ :: ks, _ :: Ds, _, _, _, ⟨a, b⟩, h => ⟨a, KB.snoc b h⟩
/-- the step j of the kept ones -/
theorem KB.get : ∀ {ks : List (Stp α)} {Ds : List α} {n : Nat}, KB ks Ds n → ∀ k ∈ ks, ∃ (E : α) (m : Nat), m ≤ it ks.length n ∧ Cf E m (k.2.1 ++ k.2.2)
  | [], [], _, _ => fun k hk => absurd hk List.not_mem_nil
  | q :: ks, D :: Ds, n, ⟨a, b⟩ => fun k hk => by
    rcases List.mem_cons.mp hk with e | hk
    · rw [e]; exact ⟨D, n, it_ge _ _, a⟩
    · obtain ⟨E, m, h1, h2⟩ := KB.get b k hk
      exact ⟨E, m, Nat.le_trans h1 (Nat.le_of_eq rfl), h2⟩
/-- a run of elimination steps keeps the form, and all calls on the way are small -/
theorem elim_cf : ∀ {ks : List (Stp α)} {Ds : List α} {n : Nat} {D : α} {s : List α × List α}, KB ks Ds n → Cf D n (s.1 ++ s.2) → Cf (D * prodOf Ds) (it ks.length n) ((ks.foldl elim s).1 ++ (ks.foldl elim s).2)
  | [], [], n, D, s, _, h => by
    have e : D * prodOf ([] : List α) = D := by show D * 1 = D; grind
    rw [e]; exact h
  | k :: ks, E :: Ds, n, D, s, ⟨a, b⟩, h => by
    have hf := z_lead h.left k.1
    have q := (rp_cf h.left a.left hf).app (rp_cf h.right a.right hf)
    have := elim_cf (s := elim s k) b (q.mono (by omega))
    have e : D * prodOf (E :: Ds) = D * E * prodOf Ds := by show D * (E * prodOf Ds) = _; grind
    rw [e]; exact this
theorem elimW_cf : ∀ {ks : List (Stp α)} {Ds : List α} {n m : Nat} {D : α} {s : List α × List α}, KB ks Ds n → n ≤ m → Cf D m (s.1 ++ s.2) → Cf (D * prodOf Ds) (it ks.length m) ((ks.foldl elimW s).1 ++ (ks.foldl elimW s).2)
  | [], [], n, m, D, s, _, _, h => by
    have e : D * prodOf ([] : List α) = D := by show D * 1 = D; grind
    rw [e]; exact h
  | k :: ks, E :: Ds, n, m, D, s, ⟨a, b⟩, hm, h => by
    have hf := z_lead h.left k.1
    have q := (rp_cf h.left a.left hf).app (rp_cf h.right a.right (h.left.at k.1))
    have := elimW_cf (s := elimW s k) (n := 2 * n + 1) (m := 2 * m + 1) b (by omega) (q.mono (by omega))
    have e : D * prodOf (E :: Ds) = D * E * prodOf Ds := by show D * (E * prodOf Ds) = _; grind
    rw [e]; exact this
/-- the calls of one step -/
theorem elim_rp {ks : List (Stp α)} {Ds : List α} {n m : Nat} {D : α} {s : List α × List α} {k : Stp α} (h : KB ks Ds n) (hk : k ∈ ks) (hs : Cf D m (s.1 ++ s.2)) (hn : m + it ks.length n ≤ 4500) :
    Sm (fn s.1 k.1) ∧ RpOk s.1 (0 - fn s.1 k.1) k.2.1 ∧ RpOk s.2 (0 - fn s.1 k.1) k.2.2 ∧ RpOk s.2 (fn s.1 k.1) k.2.2 := by
  obtain ⟨E, b, hb, a⟩ := h.get k hk
  have hf := z_lead hs.left k.1
  exact ⟨hs.left.smAt (by omega) _, rp_of hs.left a.left hf (by omega), rp_of hs.right a.right hf (by omega), rp_of hs.right a.right (hs.left.at k.1) (by omega)⟩
/-- one row more -/
theorem addRow_cf {ks : List (Stp α)} {Ds : List α} {n : Nat} {D : α} {row u : List α} (h : KB ks Ds n) (hr : Cf D n (row ++ u)) : ∃ Ds', KB (addRow ks row u) Ds' n := by
  have q := elim_cf (s := (row, u)) h hr
  unfold addRow
  generalize ks.foldl elim (row, u) = s at q
  cases e : leadOf s.1 with
  | none => exact ⟨Ds, h⟩
  | some j =>
    obtain ⟨hj, hne⟩ := leadOf_some e
    refine ⟨Ds ++ [D * prodOf Ds * fn s.1 j], h.snoc ?_⟩
    exact (cf_scale q.left hne s.1 q.left).app (cf_scale q.left hne s.2 q.right)
theorem keptOf_cf {n : Nat} : ∀ (ps : List (List α × List α)) (ks : List (Stp α)) (Ds : List α), KB ks Ds n → (∀ p ∈ ps, ∃ D, Cf D n (p.1 ++ p.2)) → ∃ Ds', KB (ps.foldl (fun kept p => addRow kept p.1 p.2) ks) Ds' n
  | [], ks, Ds, h, _ => ⟨Ds, h⟩
  | p :: ps, ks, Ds, h, hp => by
    obtain ⟨D, hD⟩ := hp p List.mem_cons_self
    obtain ⟨Ds', h'⟩ := addRow_cf h hD
    exact keptOf_cf ps _ Ds' h' fun q hq => hp q (List.mem_cons_of_mem _ hq)
theorem keptOf_len : ∀ (ps : List (List α × List α)) (ks : List (Stp α)), (ps.foldl (fun kept p => addRow kept p.1 p.2) ks).length ≤ ks.length + ps.length
  | [], ks => Nat.le_refl _
  | p :: ps, ks => by
    have h1 := keptOf_len ps (addRow ks p.1 p.2)
    have h2 := addRow_len ks p.1 p.2
    rw [List.foldl_cons, List.length_cons]; omega
theorem unit_cf {D : α} {n k i : Nat} {row : List α} (h : Cf D n row) : Cf D n (row ++ unitRow k i) := by
  refine h.app ⟨h.ne, h.zD, fun x hx => ?_⟩
  unfold unitRow at hx
  obtain ⟨j, _, e⟩ := List.mem_map.mp hx
  by_cases hij : i = j
  · rw [if_pos hij] at e
    have e2 : D * x = D := by rw [← e]; grind
    rw [e2]; exact h.zD
  · rw [if_neg hij] at e
    have e2 : D * x = 0 := by rw [← e]; grind
    rw [e2]; exact z_zero _
theorem zero_cf {D : α} {n k : Nat} {row : List α} (h : Cf D n row) : Cf D n (row ++ zeroRow k) := by
  refine h.app ⟨h.ne, h.zD, fun x hx => ?_⟩
  unfold zeroRow at hx
  have e : x = 0 := (List.mem_replicate.mp hx).2
  have e2 : D * x = 0 := by rw [e]; grind
  rw [e2]; exact z_zero _
/-- rows with forms: what the reduction of every start of them bears -/
def RowsCf (B : Nat) (rows : List (List α)) : Prop := ∀ r ∈ rows, ∃ D, Cf D B r
theorem zip_units_cf {B : Nat} {rows : List (List α)} (h : RowsCf B rows) : ∀ p ∈ rows.zip (unitRows (α := α) rows.length), ∃ D, Cf D B (p.1 ++ p.2) := fun p hp => by
  have h1 := List.of_mem_zip (a := p.1) (b := p.2) hp
  obtain ⟨D, hD⟩ := h _ h1.1
  obtain ⟨i, _, e⟩ := List.mem_map.mp h1.2
  exact ⟨D, by rw [← e]; exact unit_cf hD⟩
theorem redKept_cf {B : Nat} {rows : List (List α)} (h : RowsCf B rows) (k : Nat) : ∃ Ds, KB (keptOf ((rows.zip (unitRows (α := α) rows.length)).take k)) Ds B :=
  keptOf_cf _ [] [] trivial fun p hp => zip_units_cf h p (List.mem_of_mem_take hp)
theorem keptOf_len' {rows : List (List α)} (k : Nat) : (keptOf ((rows.zip (unitRows (α := α) rows.length)).take k)).length ≤ rows.length := by
  have := keptOf_len ((rows.zip (unitRows (α := α) rows.length)).take k) ([] : List (Stp α))
  rw [List.length_take, List.length_zip] at this
  have : ([] : List (Stp α)).length = 0 := rfl
  unfold keptOf
  omega
theorem keptOf_all {rows : List (List α)} : keptOf ((rows.zip (unitRows (α := α) rows.length)).take rows.length) = redKept rows := by
  rw [List.take_of_length_le (by rw [List.length_zip]; omega)]; rfl
/-- the weights that come out: over D times one number of the rows alone -/
theorem weightsFor_cf {B : Nat} {rows : List (List α)} (h : RowsCf B rows) : ∃ E : α, ∀ {D : α} {m : Nat} {row ws : List α}, B ≤ m → Cf D m row → weightsFor rows row = some ws → Cf (D * E) (it rows.length m) ws := by
  obtain ⟨Ds, hK⟩ := redKept_cf h rows.length
  rw [keptOf_all] at hK
  refine ⟨prodOf Ds, fun {D m row ws} hm hr hw => ?_⟩
  have q := elimW_cf (s := (row, zeroRow rows.length)) hK hm (zero_cf hr)
  unfold weightsFor at hw
  split at hw
  · cases hw
  · cases hw
    have l : (redKept rows).length ≤ rows.length := by
      have := keptOf_len' (rows := rows) rows.length
      rw [keptOf_all] at this
      exact this
    exact q.right.mono (it_mono l (Nat.le_refl _))
/-- sums with shared forms -/
theorem sumTo_cf {D E : α} {n m : Nat} {ws : List α} {rows : List (List α)} {width : Nat} (hw : Cf D n ws) (hr : ∀ r ∈ rows, Cf E m r) (hE : E ≠ 0) (zE : Z m E) : ∀ (k : Nat), k ≤ rows.length → Cf (D * E) (n + m + k) (sumTo ws rows width k)
  | 0, _ => by
    refine ⟨ne_mul hw.ne hE, z_mono (Nat.le_add_right _ _) (z_mul hw.zD zE), fun x hx => ?_⟩
    rw [sumTo_zero] at hx
    have e : x = 0 := (List.mem_replicate.mp hx).2
    have e2 : D * E * x = 0 := by rw [e]; grind
    rw [e2]; exact z_zero _
  | k + 1, hk => by
    have ih := sumTo_cf (width := width) hw hr hE zE k (by omega)
    refine ⟨ih.ne, z_mono (Nat.le_succ _) ih.zD, fun x hx => ?_⟩
    rw [sumTo_succ] at hx
    obtain ⟨i, _, e⟩ := List.mem_map.mp hx
    have hrow := hr _ (getD_mem (d := []) (show k < rows.length by omega))
    have e2 : D * E * x = D * E * fn (sumTo ws rows width k) i + (D * fn ws k) * (E * fn (rows.getD k []) i) := by rw [← e]; grind
    rw [e2]
    exact z_add (ih.at i) (z_mono (Nat.le_add_right _ _) (z_mul (hw.at k) (hrow.at i)))
/-- what the law's sum asks of smallness -/
structure SumOk (ws : List α) (rows : List (List α)) (width : Nat) : Prop where
  hw : ∀ k, Sm (fn ws k)
  hr : ∀ k i, k < rows.length → Sm (fn (rows.getD k []) i)
  hp : ∀ k i, k < rows.length → Sm (fn ws k * fn (rows.getD k []) i)
  ht : ∀ k i, k ≤ rows.length → Sm (fn (sumTo ws rows width k) i)
theorem sum_ok {D E : α} {n m : Nat} {ws : List α} {rows : List (List α)} {width : Nat} (hw : Cf D n ws) (hr : ∀ r ∈ rows, Cf E m r) (hE : E ≠ 0) (zE : Z m E) (hn : n + m + rows.length ≤ 4500) : SumOk ws rows width := by
  refine ⟨fun k => hw.smAt (by omega) k, fun k i hk => (hr _ (getD_mem hk)).smAt (by omega) i, fun k i hk => ?_, fun k i hk => (sumTo_cf hw hr hE zE k hk).smAt (by omega) i⟩
  refine sm_of (ne_mul hw.ne hE) (z_mono (by omega) (z_mul hw.zD zE)) ?_
  have e : D * E * (fn ws k * fn (rows.getD k []) i) = (D * fn ws k) * (E * fn (rows.getD k []) i) := by grind
  rw [e]
  exact z_mono (by omega) (z_mul (hw.at k) ((hr _ (getD_mem hk)).at i))

/-! ### the law's own elimination -/
def LB (n : Nat) (left : List (List α)) : Prop := ∀ r ∈ left, ∃ D, Cf D n r
/-- the calls of one row's step -/
structure LessOk (c : Nat) (lead row : List α) : Prop where
  a : Sm (fn row c)
  b : Sm (fn lead c)
  q : Sm (fn row c * Fl.inv (fn lead c))
  f : Sm (-1 * (fn row c * Fl.inv (fn lead c)))
  hr : ∀ i, Sm (fn row i)
  hl : ∀ i, Sm (fn lead i)
  hp : ∀ i, Sm (-1 * (fn row c * Fl.inv (fn lead c)) * fn lead i)
theorem less_ok {D E : α} {n : Nat} {c : Nat} {lead row : List α} (h : Cf D n row) (g : Cf E n lead) (hc : fn lead c ≠ 0) (hn : 2 * n ≤ 4500) : LessOk c lead row := by
  have hm := Fl.mul_inv _ hc
  have zz : Z 4500 (D * (E * fn lead c)) := z_mono (by omega) (z_mul h.zD (g.at c))
  have ne := ne_mul h.ne (ne_mul g.ne hc)
  refine ⟨h.smAt (by omega) c, g.smAt (by omega) c, sm_of ne zz ?_, sm_of ne zz ?_, fun i => h.smAt (by omega) i, fun i => g.smAt (by omega) i, fun i => sm_of ne zz ?_⟩
  · have e : D * (E * fn lead c) * (fn row c * Fl.inv (fn lead c)) = (D * fn row c) * E := by grind
    rw [e]; exact z_mono (by omega) (z_mul (h.at c) g.zD)
  · have e : D * (E * fn lead c) * (-1 * (fn row c * Fl.inv (fn lead c))) = -((D * fn row c) * E) := by grind
    rw [e]; exact z_neg (z_mono (by omega) (z_mul (h.at c) g.zD))
  · have e : D * (E * fn lead c) * (-1 * (fn row c * Fl.inv (fn lead c)) * fn lead i) = -((D * fn row c) * (E * fn lead i)) := by grind
    rw [e]; exact z_neg (z_mono (by omega) (z_mul (h.at c) (g.at i)))
theorem less_cf {D E : α} {n w : Nat} {c : Nat} {lead row : List α} (h : Cf D n row) (g : Cf E n lead) (hc : fn lead c ≠ 0) : Cf (D * (E * fn lead c)) (2 * n + 1) (lessLead w c lead row) := by
  have hm := Fl.mul_inv _ hc
  refine ⟨ne_mul h.ne (ne_mul g.ne hc), z_mono (by omega) (z_mul h.zD (g.at c)), fun x hx => ?_⟩
  unfold lessLead at hx
  obtain ⟨i, _, e⟩ := List.mem_map.mp hx
  have e2 : D * (E * fn lead c) * x = (D * fn row i) * (E * fn lead c) + -((D * fn row c) * (E * fn lead i)) := by rw [← e]; grind
  rw [e2]
  exact z_mono (by omega) (z_add (z_mul (h.at i) (g.at c)) (z_neg (z_mul (h.at c) (g.at i))))
theorem lawTurn_cf {w B c : Nat} {s : List (List α) × Nat} (h : LB (it s.2 B) s.1) : LB (it (lawTurn w s c).2 B) (lawTurn w s c).1 := by
  unfold lawTurn
  cases e : pivot s.1 s.2 c with
  | none => exact h
  | some a =>
    obtain ⟨ha, hra, hne⟩ := pivot_some e
    show LB (it (s.2 + 1) B) _
    rw [it_succ]
    have hr : s.2 < s.1.length := by omega
    obtain ⟨E, hE⟩ := h _ (getD_mem (d := []) ha)
    intro r hr'
    obtain ⟨k, hk, ek⟩ := List.getElem_of_mem hr'
    rw [swept_len, swapped_len] at hk
    rw [← getD_lt (d := []), swept_getD (by rw [swapped_len]; exact hk)] at ek
    have sw : ∃ D, Cf D (it s.2 B) ((swapped s.1 s.2 a).getD k []) := by
      rw [swapped_getD hr ha k hk]
      split
      · exact h _ (getD_mem ha)
      · split
        · exact h _ (getD_mem hr)
        · exact h _ (getD_mem hk)
    obtain ⟨D, hD⟩ := sw
    rw [← ek]
    split
    · exact ⟨_, less_cf hD hE hne⟩
    · exact ⟨D, hD.mono (by omega)⟩
end
end M26

end

/-! ## MathF -/
section
set_option linter.all false
/-! The two fields: the numbers modulo a prime, the fractions. -/
namespace M26
/-! ### modulo p -/
section
variable {p : Nat} [NeZero p]
/-- out times b to the power l, by squares; f: enough turns -/
def fpow : Nat → Fin p → Fin p → Nat → Fin p
  | 0, out, _, _ => out
  | f + 1, out, b, l => if l = 0 then out else fpow f (if l % 2 = 1 then out * b else out) (b * b) (l / 2)
theorem fpow_mul : ∀ (f : Nat) (a o b : Fin p) (l : Nat), fpow f (a * o) b l = a * fpow f o b l
  | 0, _, _, _, _ => rfl
  | f + 1, a, o, b, l => by
    unfold fpow
    by_cases h : l = 0
    · rw [if_pos h, if_pos h]
    · rw [if_neg h, if_neg h, ← fpow_mul f]
      congr 1
      by_cases h2 : l % 2 = 1
      · rw [if_pos h2, if_pos h2]; grind
      · rw [if_neg h2, if_neg h2]
theorem fpow_zero (f : Nat) (o b : Fin p) : fpow f o b 0 = o := by
  cases f with
  | zero => rfl
  | succ f => unfold fpow; rw [if_pos rfl]
/-- enough turns are enough -/
theorem fpow_fuel : ∀ (f g : Nat) (o b : Fin p) (l : Nat), l < 2 ^ f → l < 2 ^ g → fpow f o b l = fpow g o b l
  | 0, g, o, b, l, h, _ => by
    have : l = 0 := by omega
    subst this
    rw [fpow_zero, fpow_zero]
  | f + 1, 0, o, b, l, _, h => by
    have : l = 0 := by omega
    subst this
    rw [fpow_zero, fpow_zero]
  | f + 1, g + 1, o, b, l, h1, h2 => by
    unfold fpow
    by_cases h : l = 0
    · rw [if_pos h, if_pos h]
    · rw [if_neg h, if_neg h]
      have e1 : 2 ^ (f + 1) = 2 * 2 ^ f := by rw [Nat.pow_succ]; omega
      have e2 : 2 ^ (g + 1) = 2 * 2 ^ g := by rw [Nat.pow_succ]; omega
      exact fpow_fuel f g _ _ _ (by omega) (by omega)
/-- the same on plain numbers, for the kernel -/
def npow (p : Nat) : Nat → Nat → Nat → Nat → Nat
  | 0, out, _, _ => out
  | f + 1, out, b, l => cond (Nat.beq l 0) out (npow p f (cond (Nat.beq (l % 2) 1) (out * b % p) out) (b * b % p) (l / 2))
theorem fpow_val : ∀ (f : Nat) (o b : Fin p) (l : Nat), (fpow f o b l).val = npow p f o.val b.val l
  | 0, _, _, _ => rfl
  | f + 1, o, b, l => by
    unfold fpow npow
    by_cases h : l = 0
    · rw [if_pos h, show Nat.beq l 0 = true by simpa using h]; rfl
    · rw [if_neg h, show Nat.beq l 0 = false from Bool.eq_false_iff.mpr fun z => h (Nat.eq_of_beq_eq_true z), fpow_val f]
      by_cases h2 : l % 2 = 1
      · rw [if_pos h2, show Nat.beq (l % 2) 1 = true by simpa using h2]; rfl
      · rw [if_neg h2, show Nat.beq (l % 2) 1 = false from Bool.eq_false_iff.mpr fun z => h2 (Nat.eq_of_beq_eq_true z)]; rfl
end
/-- x times its power p - 2 is one, from s on, n times -/
def chkInv (p : Nat) : Nat → Nat → Bool
  | 0, _ => true
  | n + 1, s => and (Nat.beq (s * npow p 14 1 s (p - 2) % p) 1) (chkInv p n (s + 1))
theorem chkInv_at {p : Nat} : ∀ {n s : Nat}, chkInv p n s = true → ∀ x, s ≤ x → x < s + n → x * npow p 14 1 x (p - 2) % p = 1
  | 0, s, _, x, h1, h2 => by omega
  | n + 1, s, h, x, h1, h2 => by
    unfold chkInv at h
    rw [Bool.and_eq_true] at h
    by_cases e : x = s
    · subst e; exact Nat.eq_of_beq_eq_true h.1
    · exact chkInv_at h.2 x (by omega) (by omega)
def chkDiv (p : Nat) : Nat → Nat → Bool
  | 0, _ => true
  | n + 1, d => and (or (Nat.ble (p + 1) (d * d)) (Nat.ble 1 (p % d))) (chkDiv p n (d + 1))
theorem chkDiv_at {p : Nat} : ∀ {n s : Nat}, chkDiv p n s = true → ∀ x, s ≤ x → x < s + n → x * x ≤ p → p % x ≠ 0
  | 0, s, _, x, h1, h2, _ => by omega
  | n + 1, s, h, x, h1, h2, h3 => by
    unfold chkDiv at h
    rw [Bool.and_eq_true, Bool.or_eq_true] at h
    by_cases e : x = s
    · subst e
      rcases h.1 with q | q
      · have := Nat.le_of_ble_eq_true q; omega
      · have := Nat.le_of_ble_eq_true q; omega
    · exact chkDiv_at h.2 x (by omega) (by omega) h3
/-- what is asked of a prime -/
class PrimeP (p : Nat) : Prop where
  two : 2 ≤ p
  most : p ≤ 9973
  inv : chkInv p (p - 1) 1 = true
  div : chkDiv p 100 2 = true
instance {p : Nat} [h : PrimeP p] : NeZero p := ⟨by have := h.two; omega⟩
section
variable {p : Nat} [P : PrimeP p]
theorem PrimeP.noDiv {d : Nat} (h2 : 2 ≤ d) (h : d * d ≤ p) : p % d ≠ 0 := by
  refine chkDiv_at P.div d h2 ?_ h
  have := P.most
  refine Classical.byContradiction fun z => ?_
  have h3 : 102 ≤ d := by omega
  have := Nat.mul_le_mul h3 h3
  omega
def finInv (x : Fin p) : Fin p := fpow 14 1 x (p - 2)
theorem one_val : ((1 : Fin p)).val = 1 := by
  have := P.two
  show 1 % p = 1
  exact Nat.mod_eq_of_lt (by omega)
theorem fin_mul_inv (x : Fin p) (h : x ≠ 0) : x * finInv x = 1 := by
  have h0 : x.val ≠ 0 := fun z => h (Fin.ext (by rw [z]; rfl))
  have := chkInv_at P.inv x.val (by omega) (by have := x.isLt; omega)
  apply Fin.ext
  rw [one_val, Fin.val_mul]
  unfold finInv
  rw [fpow_val, one_val]
  exact this
instance finFl : Fl (Fin p) where
  inv := finInv
  mul_inv := fin_mul_inv
  one_ne := fun z => by
    have := congrArg Fin.val z
    rw [one_val] at this
    exact absurd this (by show 1 ≠ 0 % p; rw [Nat.zero_mod]; decide)
  dec := inferInstance
instance finFd : Fd (Fin p) where
  p := p
  Z := fun _ _ => True
  six := 1
  Sm := fun _ => True
  six_ne := Fl.one_ne
  z_six := trivial
  z_zero := fun _ => trivial
  z_one := trivial
  z_mono := fun _ _ => trivial
  z_neg := fun _ => trivial
  z_add := fun _ _ => trivial
  z_mul := fun _ _ => trivial
  sm_of := fun _ _ _ => trivial
end
instance : PrimeP 2 := ⟨by decide, by decide, by decide +kernel, by decide +kernel⟩
instance : PrimeP 3 := ⟨by decide, by decide, by decide +kernel, by decide +kernel⟩
instance : PrimeP 5 := ⟨by decide, by decide, by decide +kernel, by decide +kernel⟩
instance : PrimeP 7 := ⟨by decide, by decide, by decide +kernel, by decide +kernel⟩
instance : PrimeP 11 := ⟨by decide, by decide, by decide +kernel, by decide +kernel⟩
instance : PrimeP 101 := ⟨by decide, by decide, by decide +kernel, by decide +kernel⟩
instance : PrimeP 9973 := ⟨by decide, by decide, by decide +kernel, by decide +kernel⟩

/-! ### the fractions -/
theorem rat_int (d : Int) : (d : Rat) = Rat.divInt d 1 := by
  show (d : Rat) = Rat.divInt d ((1 : Nat) : Int)
  rw [Rat.divInt_ofNat]
  exact (Rat.mkRat_self (d : Rat)).symm
instance ratFl : Fl Rat where
  inv := fun x => x⁻¹
  mul_inv := Rat.mul_inv_cancel
  one_ne := by decide
  dec := inferInstance
def RZ (n : Nat) (x : Rat) : Prop := ∃ a : Int, x = (a : Rat) ∧ a.natAbs < 2 ^ n
def RSm (x : Rat) : Prop := x.num.natAbs < 2 ^ 4500 ∧ x.den < 2 ^ 4500
theorem RZ.bound {n : Nat} {D x : Rat} (h : D ≠ 0) (hD : RZ n D) (hx : RZ n (D * x)) : x.num.natAbs < 2 ^ n ∧ x.den < 2 ^ n := by
  obtain ⟨d, e1, b1⟩ := hD
  obtain ⟨e, e2, b2⟩ := hx
  have hd : d ≠ 0 := fun z => h (by rw [e1, z]; rfl)
  have key : d * x.num = e * x.den := by
    have q : D * x = Rat.divInt (d * x.num) (x.den : Int) := by
      have e3 : D = Rat.divInt d 1 := by rw [e1]; exact rat_int d
      have e4 : x = Rat.divInt x.num (x.den : Int) := (Rat.num_divInt_den x).symm
      conv => lhs; rw [e3, e4]
      rw [Rat.divInt_mul_divInt, Int.one_mul]
    have q2 : D * x = Rat.divInt e 1 := by rw [e2]; exact rat_int e
    rw [q2] at q
    have hden : (x.den : Int) ≠ 0 := by have := x.den_nz; omega
    have := (Rat.divInt_eq_divInt_iff (by decide) hden).mp q
    omega
  have cop : x.num.natAbs.Coprime x.den := x.reduced
  have k2 : d.natAbs * x.num.natAbs = e.natAbs * x.den := by
    have := congrArg Int.natAbs key
    rw [Int.natAbs_mul, Int.natAbs_mul] at this
    simpa using this
  have dv : x.den ∣ d.natAbs := by
    have : x.den ∣ d.natAbs * x.num.natAbs := ⟨e.natAbs, by rw [k2, Nat.mul_comm]⟩
    exact (Nat.Coprime.symm cop).dvd_of_dvd_mul_right this
  have hd' : 0 < d.natAbs := by omega
  have le1 : x.den ≤ d.natAbs := Nat.le_of_dvd hd' dv
  refine ⟨?_, Nat.lt_of_le_of_lt le1 b1⟩
  by_cases he : e = 0
  · have : x.num.natAbs = 0 := by
      have : d.natAbs * x.num.natAbs = 0 := by rw [k2, he]; simp
      rcases Nat.mul_eq_zero.mp this with z | z
      · omega
      · exact z
    rw [this]
    exact Nat.pow_pos (by decide)
  · have dv2 : x.num.natAbs ∣ e.natAbs := by
      have : x.num.natAbs ∣ e.natAbs * x.den := ⟨d.natAbs, by rw [← k2, Nat.mul_comm]⟩
      exact cop.dvd_of_dvd_mul_right this
    have : x.num.natAbs ≤ e.natAbs := Nat.le_of_dvd (by omega) dv2
    omega
instance ratFd : Fd Rat where
  p := 0
  Z := RZ
  six := 6
  Sm := RSm
  six_ne := by decide
  z_six := ⟨6, rfl, by decide⟩
  z_zero := fun n => ⟨0, rfl, Nat.pow_pos (by decide)⟩
  z_one := ⟨1, rfl, by decide⟩
  z_mono := fun h ⟨a, e, b⟩ => ⟨a, e, Nat.lt_of_lt_of_le b (Nat.pow_le_pow_right (by decide) h)⟩
  z_neg := fun ⟨a, e, b⟩ => ⟨-a, by rw [e, Rat.intCast_neg], by rw [Int.natAbs_neg]; exact b⟩
  z_add := fun ⟨a, e, b⟩ ⟨a', e', b'⟩ => ⟨a + a', by rw [e, e', Rat.intCast_add], by
    have := Int.natAbs_add_le a a'
    rw [Nat.pow_succ]; omega⟩
  z_mul := fun ⟨a, e, b⟩ ⟨a', e', b'⟩ => ⟨a * a', by rw [e, e', Rat.intCast_mul], by
    rw [Int.natAbs_mul, Nat.pow_add]
    exact Nat.mul_lt_mul'' b b'⟩
  sm_of := fun h hD hx => RZ.bound h hD hx
end M26

end

/-! ## MathG -/
section
set_option linter.all false
/-! The reduction step by step: what the loops keep. -/
namespace M26
section
variable {α : Type} [Fd α]
open Fd
theorem foldl_take_succ {β γ : Type} {f : γ → β → γ} {b : γ} {l : List β} {j : Nat} {a : β} (h : l[j]? = some a) : (l.take (j + 1)).foldl f b = f ((l.take j).foldl f b) a := by
  rw [List.take_add_one, h]
  show (l.take j ++ [a]).foldl f b = _
  rw [List.foldl_append]; rfl
theorem KB.take : ∀ {ks : List (Stp α)} {Ds : List α} {n : Nat} (j : Nat), KB ks Ds n → KB (ks.take j) (Ds.take j) n
  | [], [], _, j, _ => by rw [List.take_nil, List.take_nil]; trivial
  | k :: ks, D :: Ds, n, 0, _ => trivial
  | k :: ks, D :: Ds, n, j + 1, ⟨a, b⟩ => ⟨a, KB.take j b⟩
theorem KB.at : ∀ {ks : List (Stp α)} {Ds : List α} {n j : Nat} {k : Stp α}, KB ks Ds n → ks[j]? = some k → ∃ E : α, Cf E (it j n) (k.2.1 ++ k.2.2)
  | [], [], _, _, _, _, h => by simp at h
  | q :: ks, D :: Ds, n, 0, k, ⟨a, b⟩, h => by
    have e : q = k := by simpa using h
    rw [← e]; exact ⟨D, a⟩
  | q :: ks, D :: Ds, n, j + 1, k, ⟨a, b⟩, h => KB.at (n := 2 * n + 1) (j := j) b (by simpa using h)
theorem KOk.take {w m : Nat} {kept : List (Stp α)} (h : KOk w m kept) (j : Nat) : KOk w m (kept.take j) :=
  ⟨fun k hk => h.len k (List.mem_of_mem_take hk), fun k hk => h.one k (List.mem_of_mem_take hk), h.ech.sublist (List.take_sublist _ _)⟩
/-- the rows with their units -/
abbrev pairs (rows : List (List α)) : List (List α × List α) := rows.zip (unitRows (α := α) rows.length)
/-- kept behind i rows -/
def keptTo (rows : List (List α)) (i : Nat) : List (Stp α) := keptOf ((pairs rows).take i)
theorem pairs_at {rows : List (List α)} {i : Nat} {r : List α} (h : rows[i]? = some r) : (pairs rows)[i]? = some (r, unitRow rows.length i) := by
  obtain ⟨hi, e⟩ := List.getElem?_eq_some_iff.mp h
  rw [List.getElem?_zip_eq_some]
  refine ⟨h, ?_⟩
  unfold unitRows
  rw [List.getElem?_map, List.getElem?_range hi]; rfl
theorem keptTo_zero (rows : List (List α)) : keptTo rows 0 = [] := rfl
theorem keptTo_succ {rows : List (List α)} {i : Nat} {r : List α} (h : rows[i]? = some r) : keptTo rows (i + 1) = addRow (keptTo rows i) r (unitRow rows.length i) := by
  unfold keptTo keptOf
  exact foldl_take_succ (pairs_at h)
theorem keptTo_all (rows : List (List α)) : keptTo rows rows.length = redKept rows := keptOf_all
theorem keptTo_ok {w : Nat} {rows : List (List α)} (hw : ∀ r ∈ rows, r.length = w) (i : Nat) : KOk w rows.length (keptTo rows i) :=
  (keptOf_ok (w := w) (m := rows.length) ((pairs rows).take i) [] .nil fun p hp => zip_units_len hw p (List.mem_of_mem_take hp)).1
theorem keptTo_len (rows : List (List α)) (i : Nat) : (keptTo rows i).length ≤ rows.length := keptOf_len' i
theorem keptTo_cf {B : Nat} {rows : List (List α)} (h : RowsCf B rows) (i : Nat) : ∃ Ds, KB (keptTo rows i) Ds B := redKept_cf h i
/-- the state of the elimination behind j steps: lengths, a form, the calls of the next step -/
structure Going (w m : Nat) (f : List α × List α → Stp α → List α × List α) (kept : List (Stp α)) (row u : List α) (j : Nat) : Prop where
  l1 : ((kept.take j).foldl f (row, u)).1.length = w
  l2 : ((kept.take j).foldl f (row, u)).2.length = m
  sm : ∀ x ∈ ((kept.take j).foldl f (row, u)).1, Sm x
  sm2 : ∀ x ∈ ((kept.take j).foldl f (row, u)).2, Sm x
  sm0 : ∀ i, Sm (fn ((kept.take j).foldl f (row, u)).1 i)
  inv : ∀ i, fn ((kept.take j).foldl f (row, u)).1 i ≠ 0 → Sm (Fl.inv (fn ((kept.take j).foldl f (row, u)).1 i))
  next : ∀ k, kept[j]? = some k → RpOk ((kept.take j).foldl f (row, u)).1 (0 - fn ((kept.take j).foldl f (row, u)).1 k.1) k.2.1 ∧
    RpOk ((kept.take j).foldl f (row, u)).2 (0 - fn ((kept.take j).foldl f (row, u)).1 k.1) k.2.2 ∧ RpOk ((kept.take j).foldl f (row, u)).2 (fn ((kept.take j).foldl f (row, u)).1 k.1) k.2.2
theorem it_le {j n : Nat} (hj : j ≤ 6) (hn : n ≤ 64) : it j n ≤ 4159 := Nat.le_trans (it_mono hj hn) (by decide)
theorem it_le5 {j n : Nat} (hj : j ≤ 5) (hn : n ≤ 60) : it j n ≤ 1951 := Nat.le_trans (it_mono hj hn) (by decide)
theorem it_le5' {j n : Nat} (hj : j ≤ 5) (hn : n ≤ 64) : it j n ≤ 2079 := Nat.le_trans (it_mono hj hn) (by decide)
theorem going_of {w m : Nat} {f : List α × List α → Stp α → List α × List α} {kept : List (Stp α)} {Ds : List α} {row u : List α} {j B M : Nat} {D : α} (hB : B ≤ 60) (hM : M ≤ 64) (hl : kept.length ≤ 6)
    (l1 : ((kept.take j).foldl f (row, u)).1.length = w) (l2 : ((kept.take j).foldl f (row, u)).2.length = m) (hK : KB kept Ds B)
    (c : ∃ D : α, Cf D (it (kept.take j).length M) (((kept.take j).foldl f (row, u)).1 ++ ((kept.take j).foldl f (row, u)).2)) : Going w m f kept row u j := by
  obtain ⟨D, c⟩ := c
  have tl : (kept.take j).length ≤ 6 := by rw [List.length_take]; omega
  have h6 := it_le (n := M) tl hM
  refine ⟨l1, l2, c.left.sm (by omega), c.right.sm (by omega), c.left.smAt (by omega), fun i hi => cf_inv c.left hi (by omega), fun k hk => ?_⟩
  obtain ⟨hj, _⟩ := List.getElem?_eq_some_iff.mp hk
  have tj : (kept.take j).length = j := by rw [List.length_take]; omega
  rw [tj] at c
  obtain ⟨E, hE⟩ := hK.at hk
  have h1 := it_le5' (j := j) (n := M) (by omega) hM
  have h2 := it_le5 (j := j) (n := B) (by omega) hB
  have hf := z_lead c.left k.1
  exact ⟨rp_of c.left hE.left hf (by omega), rp_of c.right hE.right hf (by omega), rp_of c.right hE.right (c.left.at k.1) (by omega)⟩
theorem elim_going {w B i : Nat} {rows : List (List α)} {r : List α} (hw : ∀ r ∈ rows, r.length = w) (h : RowsCf B rows) (hB : B ≤ 60) (h6 : rows.length ≤ 6) (hr : rows[i]? = some r) (j : Nat) :
    Going w rows.length elim (keptTo rows i) r (unitRow rows.length i) j := by
  obtain ⟨Ds, hK⟩ := keptTo_cf h i
  have hm := List.mem_of_getElem? hr
  obtain ⟨D, hD⟩ := h r hm
  have ok := (keptTo_ok hw i).take j
  obtain ⟨q1, q2, _⟩ := elim_row (row := r) (u := unitRow rows.length i) ok (hw r hm) unitRow_len
  exact going_of hB (show B ≤ 64 by omega) (Nat.le_trans (keptTo_len rows i) h6) q1 q2 hK (D := D) ⟨_, elim_cf (s := (r, unitRow rows.length i)) (hK.take j) (unit_cf hD)⟩
theorem elimW_len {w m : Nat} : ∀ {kept : List (Stp α)} {row u : List α}, KOk w m kept → row.length = w → u.length = m → (kept.foldl elimW (row, u)).1.length = w ∧ (kept.foldl elimW (row, u)).2.length = m
  | [], _, _, _, h1, h2 => ⟨h1, h2⟩
  | k :: kept, row, u, h, h1, h2 => by
    obtain ⟨_, hk2, hk3⟩ := h.len k List.mem_cons_self
    have h3 : (row, u).1.length = k.2.1.length := by show row.length = _; omega
    have h4 : (row, u).2.length = k.2.2.length := by show u.length = _; omega
    exact elimW_len (kept := kept) h.tail (by rw [rowPlus_len h3]; exact h1) (by rw [rowPlus_len h4]; exact h2)
theorem elimW_going {w B M : Nat} {rows : List (List α)} {row : List α} (hw : ∀ r ∈ rows, r.length = w) (h : RowsCf B rows) (hB : B ≤ 60) (h6 : rows.length ≤ 6) (hr : row.length = w) {D : α} (hD : Cf D M row) (hBM : B ≤ M) (hM : M ≤ 64) (j : Nat) :
    Going w rows.length elimW (redKept rows) row (zeroRow rows.length) j := by
  obtain ⟨Ds, hK⟩ := keptTo_cf h rows.length
  have hl := keptTo_len rows rows.length
  have ok := (keptTo_ok hw rows.length).take j
  rw [keptTo_all] at hK hl ok
  obtain ⟨q1, q2⟩ := elimW_len (row := row) (u := zeroRow rows.length) ok hr (by unfold zeroRow; rw [List.length_replicate])
  exact going_of hB hM (Nat.le_trans hl h6) q1 q2 hK (D := D) ⟨_, elimW_cf (s := (row, zeroRow rows.length)) (hK.take j) hBM (zero_cf hD)⟩
end
end M26

end

/-! ## WBase -/
section
set_option Elab.async false
set_option linter.all false
set_option maxRecDepth 100000
set_option maxHeartbeats 2000000
/-! The ground of the walks: the text by places, callables as one fact, the heap's tuples, the numbers as they stand in it. -/
namespace W26
open PySem L2 M26
def topS (i : Nat) : Stmt := PySem.Challenge.pw_sheetproofs_k26_whole_ranks_weights_and.main.body.getD i (.Pass ⟨0, 0, 0, 0⟩)
/-! ### callables as one fact -/
/-- a def of the module: it stands under the name x, binds the parameters ps, keeps its promise -/
def Dfn (P : Program) (w : World) (K : PySem.W.Frag) (mg : Str → Option Value) (base : Heap) (CX : CXT) (k : Nat) (x : Str) (ps : List Str) (sp : Sp) : Prop :=
  ∃ (f : Addr) (fd : FuncData), mg x = some (.ref f) ∧ PySem.W.keepIn K (.ref f) = true ∧ Binds K fd ps [] ∧ FnOk P w K mg base CX k f fd ps sp
/-- a method of the class at C -/
def Mtd (P : Program) (w : World) (K : PySem.W.Frag) (mg : Str → Option Value) (base : Heap) (CX : CXT) (k : Nat) (C : Addr) (m : Str) (ps : List Str) (sp : Sp) : Prop :=
  ∃ (f : Addr) (fd : FuncData), Meth K C m f ∧ Binds K fd ps [] ∧ FnOk P w K mg base CX k f fd ps sp
/-- a class's making -/
def Mkr (P : Program) (w : World) (K : PySem.W.Frag) (mg : Str → Option Value) (base : Heap) (CX : CXT) (k : Nat) (x : Str) (C : Addr) (ps : List Str) (sp : Sp) : Prop :=
  ∃ (f : Addr) (fd : FuncData), mg x = some (.ref C) ∧ Mk K C f ∧ Binds K fd ps [] ∧ FnOk P w K mg base CX k f fd ps sp
section
variable {X : Cx} {CX : CXT} {k : Nat} {C : Addr} {ps : List Str} {sp : Sp} {E : XK} {x m : Str} {p pos apos : Pos} {e o : Expr} {es : List Expr} {ta : TE} {t : TA}
theorem pe_cd (D : Dfn X.prog X.w X.K X.mg X.base CX k x ps sp) (hr : Room k X.A) (hx : Passes CX X E) (ha : PA X (e :: es) t) (hg : Gl X x := by rfl) (hdb : (x == ("__debug__" : Str)) = false := by decide)
    (he : starEach (e :: es) X.env = (false, eval e X.env) :: starEach es X.env := by rfl) (hpl : (backTo pos (starEach es X.env)).any (·.1) = false := by rfl) :
    PE X (.Call (.Name x p) (e :: es) [] pos) (tCall sp [] E t) := by
  obtain ⟨f, fd, hm, hk, hb, F⟩ := D
  exact pe_call F hr hg hm hk hb .nil hx ha hdb he hpl
theorem pe_md {pl : Sem Bool} (ho : PE X o ta) (c : Cls X.K C) (D : Mtd X.prog X.w X.K X.mg X.base CX k C m ps sp) (hr : Room k X.A) (hx : Passes CX X E) (ha : PA X (e :: es) t)
    (hst : starEach (e :: es) X.env = (false, eval e X.env) :: starEach es X.env := by rfl) (hpl : (backTo pos (starEach es X.env)).any (·.1) = false := by rfl)
    (ht : eval (.Call (.Attribute o m apos) (e :: es) [] pos) X.env = (do
      let ov ← eval o X.env
      standAt apos.atName
      let (f, first) ← holding [ov] (getMethod ov m pl)
      callWith pos f first (backTo pos (starEach (e :: es) X.env)) (backToKw pos (keywordEach [] X.env))) := by rfl) :
    PE X (.Call (.Attribute o m apos) (e :: es) [] pos) (tMeth C m sp [] E ta t) := by
  obtain ⟨f, fd, hm, hb, F⟩ := D
  exact pe_meth ho c hm F hr hb .nil hx ha hst hpl ht
theorem pe_mkd (D : Mkr X.prog X.w X.K X.mg X.base CX k x C ps sp) (hr : Room (k + 1) X.A) (hx : Passes CX X E) (ha : PA X (e :: es) t) (hg : Gl X x := by rfl) (hdb : (x == ("__debug__" : Str)) = false := by decide)
    (he : starEach (e :: es) X.env = (false, eval e X.env) :: starEach es X.env := by rfl) (hpl : (backTo pos (starEach es X.env)).any (·.1) = false := by rfl) :
    PE X (.Call (.Name x p) (e :: es) [] pos) (tMake C sp [] E t) := by
  obtain ⟨f, fd, hm, M, hb, F⟩ := D
  exact pe_make M F hr hg hm hb .nil hx ha hdb he hpl
theorem pe_mkd0 (D : Mkr X.prog X.w X.K X.mg X.base CX k x C ps sp) (hr : Room (k + 1) X.A) (hx : Passes CX X E) (hg : Gl X x := by rfl) (hdb : (x == ("__debug__" : Str)) = false := by decide) :
    PE X (.Call (.Name x p) [] [] pos) (tMake C sp [] E tNil) := by
  obtain ⟨f, fd, hm, M, hb, F⟩ := D
  exact pe_make0 M F hr hg hm hb .nil hx hdb
end
/-- the built-in names that stand as they were -/
structure Blt (mg : Str → Option Value) : Prop where
  len : mg "len" = none
  abs : mg "abs" = none
  int : mg "int" = none
  tuple : mg "tuple" = none
  list : mg "list" = none
  zip : mg "zip" = none
  range : mg "range" = none
  enumerate : mg "enumerate" = none
  divmod : mg "divmod" = none
  isinstance : mg "isinstance" = none
  repr : mg "repr" = none
  bool : mg "bool" = none

/-! ### the heap's tuples -/
/-- every tuple that stood stands -/
def Tk (H H' : Hp) : Prop := ∀ b xs, H b = some (.tup xs) → H' b = some (.tup xs)
theorem Tk.refl (H : Hp) : Tk H H := fun _ _ h => h
theorem Tk.trans {H H1 H2 : Hp} (a : Tk H H1) (b : Tk H1 H2) : Tk H H2 := fun c xs h => b c xs (a c xs h)
theorem Tk.of {H H' : Hp} (h : Same H H') : Tk H H' := fun b xs q => h b _ q
theorem Same.new {H : Hp} {p : Addr} {o : HO} (h : H p = none) : Same H (upd H p o) := fun b u e => by
  rw [upd_ne (ne_of_none e h)]; exact e
/-- what H0 does not know may change -/
theorem Same.mut {H0 H : Hp} {p : Addr} {o : HO} (s : Same H0 H) (h : H0 p = none) : Same H0 (upd H p o) := fun b u e => by
  rw [upd_ne (ne_of_none e h)]; exact s b u e
theorem Tk.lst {H : Hp} {p : Addr} {xs : List V} {o : HO} (h : H p = some (.lst xs)) : Tk H (upd H p o) := fun b ys e => by
  rw [upd_ne (ne_of e h (by intro z; cases z))]; exact e
theorem Tk.new {H : Hp} {p : Addr} {o : HO} (h : H p = none) : Tk H (upd H p o) := Tk.of (Same.new h)

/-! ### lists of values against lists of things -/
/-- one by one -/
structure Al {β : Type} (R : V → β → Prop) (vs : List V) (xs : List β) : Prop where
  len : vs.length = xs.length
  all : ∀ (i : Nat) (v : V) (x : β), vs[i]? = some v → xs[i]? = some x → R v x
section
variable {β : Type} {R R' : V → β → Prop}
theorem Al.nil : Al R [] [] := ⟨rfl, fun i v x h => by simp at h⟩
theorem Al.mono {vs : List V} {xs : List β} (h : Al R vs xs) (f : ∀ v x, R v x → R' v x) : Al R' vs xs := ⟨h.len, fun i v x a b => f v x (h.all i v x a b)⟩
theorem Al.snoc {vs : List V} {xs : List β} {v : V} {x : β} (h : Al R vs xs) (r : R v x) : Al R (vs ++ [v]) (xs ++ [x]) := by
  refine ⟨by rw [List.length_append, List.length_append, h.len]; rfl, fun i u y a b => ?_⟩
  by_cases hi : i < vs.length
  · rw [List.getElem?_append_left hi] at a
    rw [List.getElem?_append_left (by rw [← h.len]; exact hi)] at b
    exact h.all i u y a b
  · rw [List.getElem?_append_right (by omega)] at a
    rw [List.getElem?_append_right (by rw [← h.len]; omega), ← h.len] at b
    cases hk : i - vs.length with
    | zero =>
      rw [hk] at a b
      cases a; cases b
      exact r
    | succ n => rw [hk] at a; simp at a
theorem Al.get {vs : List V} {xs : List β} {i : Nat} {v : V} (h : Al R vs xs) (hv : vs[i]? = some v) : ∃ x, xs[i]? = some x ∧ R v x := by
  have hi := (List.getElem?_eq_some_iff.mp hv).1
  rw [h.len] at hi
  exact ⟨xs[i], by rw [List.getElem?_eq_getElem hi], h.all i v _ hv (by rw [List.getElem?_eq_getElem hi])⟩
theorem Al.at {vs : List V} {xs : List β} {i : Nat} {x : β} (h : Al R vs xs) (hx : xs[i]? = some x) : ∃ v, vs[i]? = some v ∧ R v x := by
  have hi := (List.getElem?_eq_some_iff.mp hx).1
  rw [← h.len] at hi
  exact ⟨vs[i], by rw [List.getElem?_eq_getElem hi], h.all i _ x (by rw [List.getElem?_eq_getElem hi]) hx⟩
theorem Al.set {vs : List V} {xs : List β} {v : V} {x : β} (h : Al R vs xs) (i : Nat) (r : R v x) : Al R (vs.set i v) (xs.set i x) := by
  refine ⟨by rw [List.length_set, List.length_set, h.len], fun j u y a b => ?_⟩
  by_cases hj : i = j
  · subst hj
    have h1 := (List.getElem?_eq_some_iff.mp a).1
    have h2 := (List.getElem?_eq_some_iff.mp b).1
    rw [List.length_set] at h1 h2
    rw [List.getElem?_set_self h1] at a
    rw [List.getElem?_set_self h2] at b
    cases a; cases b
    exact r
  · rw [List.getElem?_set_ne hj] at a b
    exact h.all j u y a b
theorem Al.nil_iff {vs : List V} {xs : List β} (h : Al R vs xs) : vs = [] ↔ xs = [] := by
  constructor
  · intro e; have := h.len; rw [e] at this; exact List.length_eq_zero_iff.mp this.symm
  · intro e; have := h.len; rw [e] at this; exact List.length_eq_zero_iff.mp this
theorem Al.one {v : V} {x : β} (r : R v x) : Al R [v] [x] := Al.nil.snoc r
theorem Al.append {vs us : List V} {xs ys : List β} (h : Al R vs xs) (g : Al R us ys) : Al R (vs ++ us) (xs ++ ys) := by
  refine ⟨by rw [List.length_append, List.length_append, h.len, g.len], fun i u y a b => ?_⟩
  by_cases hi : i < vs.length
  · rw [List.getElem?_append_left hi] at a
    rw [List.getElem?_append_left (by rw [← h.len]; exact hi)] at b
    exact h.all i u y a b
  · rw [List.getElem?_append_right (by omega)] at a
    rw [List.getElem?_append_right (by rw [← h.len]; omega), ← h.len] at b
    exact g.all _ u y a b
end
/-! ### numbers as they stand -/
/-- the numbers of a field as values: ints or tuples -/
class Rp (α : Type) extends Fd α where
  rep : Hp → V → α → Prop
  dat : α → PyData
  rep_ts : ∀ {H H' : Hp} {v : V} {x : α}, Tk H H' → rep H v x → rep H' v x
  rep_dp : ∀ {K : PySem.W.Frag} {H : Hp} {v : V} {x : α}, rep H v x → Dp K H v (dat x)
  dat_eqv : ∀ x y : α, PyData.eqv (dat x) (dat y) = decide (x = y)
  dat_shaped : ∀ x : α, SeqAt.shaped (dat x) = true
section
variable {α : Type} [Rp α]
open Rp
/-- a row: a tuple of numbers -/
def Row (H : Hp) (v : V) (xs : List α) : Prop := ∃ (a : Addr) (vs : List V), v = .ref a ∧ H a = some (.tup vs) ∧ Al (rep H) vs xs
/-- a row, a tuple or a list -/
def RowS (H : Hp) (v : V) (xs : List α) : Prop := ∃ (a : Addr) (vs : List V), v = .ref a ∧ (H a = some (.lst vs) ∨ H a = some (.tup vs)) ∧ Al (rep H) vs xs
/-- a list of rows -/
def Rws (H : Hp) (v : V) (rows : List (List α)) : Prop := ∃ (a : Addr) (vs : List V), v = .ref a ∧ H a = some (.lst vs) ∧ Al (RowS H) vs rows
/-- a list of rows that are tuples -/
def RwsT (H : Hp) (v : V) (rows : List (List α)) : Prop := ∃ (a : Addr) (vs : List V), v = .ref a ∧ H a = some (.lst vs) ∧ Al (Row H) vs rows
/-- a tuple of rows that are tuples -/
def RwsU (H : Hp) (v : V) (rows : List (List α)) : Prop := ∃ (a : Addr) (vs : List V), v = .ref a ∧ H a = some (.tup vs) ∧ Al (Row H) vs rows
theorem al_ts {H H' : Hp} {vs : List V} {xs : List α} (t : Tk H H') (h : Al (rep H) vs xs) : Al (rep H') vs xs := h.mono fun _ _ r => rep_ts t r
theorem Row.ts {H H' : Hp} {v : V} {xs : List α} (t : Tk H H') (h : Row H v xs) : Row H' v xs := by
  obtain ⟨a, vs, e, h1, h2⟩ := h
  exact ⟨a, vs, e, t a vs h1, al_ts t h2⟩
theorem Row.s {H : Hp} {v : V} {xs : List α} (h : Row H v xs) : RowS H v xs := by
  obtain ⟨a, vs, e, h1, h2⟩ := h
  exact ⟨a, vs, e, .inr h1, h2⟩
theorem RowS.same {H H' : Hp} {v : V} {xs : List α} (t : Same H H') (h : RowS H v xs) : RowS H' v xs := by
  obtain ⟨a, vs, e, h1, h2⟩ := h
  exact ⟨a, vs, e, h1.elim (fun q => .inl (t _ _ q)) (fun q => .inr (t _ _ q)), al_ts (Tk.of t) h2⟩
theorem Rws.same {H H' : Hp} {v : V} {rows : List (List α)} (t : Same H H') (h : Rws H v rows) : Rws H' v rows := by
  obtain ⟨a, vs, e, h1, h2⟩ := h
  exact ⟨a, vs, e, t _ _ h1, h2.mono fun _ _ r => r.same t⟩
theorem RwsT.same {H H' : Hp} {v : V} {rows : List (List α)} (t : Same H H') (h : RwsT H v rows) : RwsT H' v rows := by
  obtain ⟨a, vs, e, h1, h2⟩ := h
  exact ⟨a, vs, e, t _ _ h1, h2.mono fun _ _ r => r.ts (Tk.of t)⟩
theorem RwsT.s {H : Hp} {v : V} {rows : List (List α)} (h : RwsT H v rows) : Rws H v rows := by
  obtain ⟨a, vs, e, h1, h2⟩ := h
  exact ⟨a, vs, e, h1, h2.mono fun _ _ r => r.s⟩
theorem RwsU.ts {H H' : Hp} {v : V} {rows : List (List α)} (t : Tk H H') (h : RwsU H v rows) : RwsU H' v rows := by
  obtain ⟨a, vs, e, h1, h2⟩ := h
  exact ⟨a, vs, e, t _ _ h1, h2.mono fun _ _ r => r.ts t⟩
end
/-- a list or a tuple, read -/
def Seq' (K : PySem.W.Frag) (H : Hp) (a : Addr) (vs : List V) : Prop := SqL K H a vs ∨ SqT K H a vs
theorem seq_of {K : PySem.W.Frag} {H : Hp} {a : Addr} {vs : List V} (h : H a = some (.lst vs) ∨ H a = some (.tup vs)) : Seq' K H a vs := h.elim (fun q => .inl (SqL.of q)) fun q => .inr (SqT.of q)

/-! ### the rules that speak of the written part, with its name given (within a comprehension its own context stands in the place of the def's) -/
def rTupK (K : PySem.W.Frag) : List V → Hp → VK → Prop := fun xs H Q => ∃ p ys, xs = [.ref p] ∧ ((SqL K H p ys ∧ ∀ l, H l = none → Q (.ref l) (upd H l (.tup ys))) ∨ (SqT K H p ys ∧ Q (.ref p) H))
def rLstK (K : PySem.W.Frag) : List V → Hp → VK → Prop := fun xs H Q => ∃ p ys, xs = [.ref p] ∧ (SqL K H p ys ∨ SqT K H p ys) ∧ ∀ l, H l = none → Q (.ref l) (upd H l (.lst ys))
def rLenK (K : PySem.W.Frag) : List V → Hp → VK → Prop := fun xs H Q => ∃ p ys, xs = [.ref p] ∧ (SqL K H p ys ∨ SqT K H p ys) ∧ Q (.int ys.length) H
section
variable {X : Cx} {K : PySem.W.Frag} {e : Expr} {f : Str} {pos : Pos} {ta : TE}
theorem pe_fldK (hK : X.K = K) (he : PE X e ta) (hb : attributeBase e f X.env (eval e X.env) = eval e X.env) : PE X (.Attribute e f pos) (tFld K ta f) := by
  subst hK; exact pe_fld he hb
theorem call_tupK (hK : X.K = K) : CallR X (.type "tuple") (rTupK K) := by subst hK; exact call_tuple_of
theorem call_lstK (hK : X.K = K) : CallR X (.type "list") (rLstK K) := by subst hK; exact call_list_of
theorem call_lenK (hK : X.K = K) : CallR X (.builtin "len") (rLenK K) := by subst hK; exact call_len_seq
theorem ix_lstK (hK : X.K = K) : IxR X (rIxL K) := by subst hK; exact ix_list
theorem ix_tupK (hK : X.K = K) : IxR X (rIxT K) := by subst hK; exact ix_tup
theorem ix_seqK (hK : X.K = K) : IxR X (rIx K) := by subst hK; exact ix_seq
theorem op_eqK (hK : X.K = K) (hu : X.A.units + 64 < cLine) : OpR X (compareOp .Eq) (rEqD K) := by subst hK; exact op_eqD hu
theorem op_neK (hK : X.K = K) (hu : X.A.units + 64 < cLine) : OpR X (compareOp .NotEq) (rNeD K) := by subst hK; exact op_neD hu
theorem call_isiK' (hK : X.K = K) : CallR X (.builtin "isinstance") (rIsi K) := by subst hK; exact call_isi
theorem pi_lstK {tg : Expr} (hK : X.K = K) (he : PE X e ta) : PI X tg e (iList K ta) := by subst hK; exact pi_list he
theorem pi_tupK {tg : Expr} (hK : X.K = K) (he : PE X e ta) : PI X tg e (iTup K ta) := by subst hK; exact pi_tup he
end
/-! ### a while by an invariant and a measure -/
theorem wh {c : TT} {tb : L2.TS} {D : Ends} {σ : St} {H : Hp} (Pv : St → Hp → Prop) (μ : St → Hp → Nat) (h0 : Pv σ H)
    (hs : ∀ σ H, Pv σ H → c σ H fun b H1 => if b = true then tb { D with nx := fun σ' H' => Pv σ' H' ∧ μ σ' H' < μ σ H, ct := fun σ' H' => Pv σ' H' ∧ μ σ' H' < μ σ H, bk := D.nx } σ H1 else D.nx σ H1)
    (mono : ∀ σ H Q Q', (∀ b H1, Q b H1 → Q' b H1) → c σ H Q → c σ H Q') :
    ∃ W : Nat → St → Hp → Prop, (∃ m, W m σ H) ∧ ∀ m σ H, W m σ H → c σ H fun b H1 => if b = true then ∃ N : St → Hp → Prop, (∀ σ' H', N σ' H' → ∃ m', m' < m ∧ W m' σ' H') ∧ tb { D with nx := N, ct := N, bk := D.nx } σ H1 else D.nx σ H1 :=
  while_by Pv μ h0 hs mono
/-! ### the two fields -/
theorem eqv_int (i j : Int) : PyData.eqv (.int i) (.int j) = decide (i = j) := by
  show (i == j) = _
  exact Bool.beq_eq_decide_eq i j
instance finRp {p : Nat} [PrimeP p] : Rp (Fin p) where
  rep := fun _ v x => v = .int (x.val : Int)
  dat := fun x => .int (x.val : Int)
  rep_ts := fun _ h => h
  rep_dp := fun h => by rw [h]; exact .int _
  dat_eqv := fun x y => by
    rw [eqv_int]
    by_cases h : x = y
    · rw [h, decide_eq_true rfl, decide_eq_true rfl]
    · rw [decide_eq_false h, decide_eq_false fun z => h (Fin.ext (by omega))]
  dat_shaped := fun _ => rfl
instance ratRp : Rp Rat where
  rep := fun H v x => ∃ a, v = .ref a ∧ H a = some (.tup [.int x.num, .int (x.den : Int)])
  dat := fun x => .tuple [.int x.num, .int (x.den : Int)]
  rep_ts := fun t ⟨a, e, h⟩ => ⟨a, e, t _ _ h⟩
  rep_dp := fun ⟨a, e, h⟩ => by rw [e]; exact .tup (SqT.of h) (.cons (.int _) (.cons (.int _) .nil))
  dat_eqv := fun x y => by
    have e : PyData.eqv (.tuple [.int x.num, .int (x.den : Int)]) (.tuple [.int y.num, .int (y.den : Int)]) = (PyData.eqv (.int x.num) (.int y.num) && (PyData.eqv (.int (x.den : Int)) (.int (y.den : Int)) && true)) := by
      first | rfl | simp [PyData.eqv, PyData.eqvAll]
    rw [e, eqv_int, eqv_int, Bool.and_true]
    by_cases h : x = y
    · rw [h, decide_eq_true rfl, decide_eq_true rfl, decide_eq_true rfl]; rfl
    · rw [decide_eq_false h]
      by_cases h1 : x.num = y.num
      · rw [decide_eq_true h1, decide_eq_false fun z => h (Rat.ext h1 (by omega))]; rfl
      · rw [decide_eq_false h1]; rfl
  dat_shaped := fun _ => rfl
end W26

end

/-! ## WNum -/
section
set_option Elab.async false
set_option linter.all false
set_option maxRecDepth 100000
set_option maxHeartbeats 2000000
/-! Whole numbers: the greatest common divisor, lowest terms, powers of a rest, primes. -/
namespace W26
open PySem L2 M26
section
variable {P : Program} {w : World} {K : PySem.W.Frag} {mg : Str → Option Value} {base : Heap}
theorem op_fdivX {X : Cx} : OpR X (binaryOp .FloorDiv) (rI (fun _ j => j ≠ 0 ∧ j.natAbs.log2 < 9000) fun i j => .int (i.fdiv j)) :=
  opI fun _ _ _ _ _ _ _ hc q => PyProof.Rows.floordiv_int hc.1 q (.inl (PyProof.noPylong_of_log2 hc.2))

/-! ### common_divisor -/
abbrev s_common_divisor : Stmt := topS 21
theorem sc_common_divisor : FnScope ["one", "other", "first", "second"] ["one", "other"] (defScope s_common_divisor) :=
  ⟨rfl, rfl, rfl, by decide +kernel, rfl, by decide +kernel, by decide +kernel⟩
def spGcd : Sp := fun vs H Q _ => ∃ a b : Int, vs = [.int a, .int b] ∧ Q (.int (Int.gcd a b : Nat)) H
theorem abs_nat (a : Int) : (if a < 0 then -a else a) = (a.natAbs : Int) := by split <;> omega
theorem gcd_turn {x y : Nat} : Nat.gcd y (x % y) = Nat.gcd x y := by rw [Nat.gcd_comm x y, Nat.gcd_rec y x, Nat.gcd_comm]
/-- the second place's number -/
def sec (i : Nat) (σ : St) : Nat := match σ[i]? with
  | some (some (.int y)) => y.natAbs
  | _ => 0
theorem gcd_loop {a b : Int} {x y : Nat} {σ0 : St} {H : Hp} {D : Ends} {tb : TS} (i : Nat) (j : Nat)
    (hσ : σ0 = [some (.int a), some (.int b), some (.int (x : Nat)), some (.int (y : Nat))]) (hd : ∀ g : Nat, g = Nat.gcd x y → D.nx [some (.int a), some (.int b), some (.int (g : Nat)), some (.int 0)] H)
    (hb : ∀ (x y : Nat) (D' : Ends), y ≠ 0 → D'.nx [some (.int a), some (.int b), some (.int (y : Nat)), some (.int ((x % y : Nat) : Nat))] H → tb D' [some (.int a), some (.int b), some (.int (x : Nat)), some (.int (y : Nat))] H) :
    ∀ (c : TT), (∀ (x y : Nat) (Q : Bool → Hp → Prop), Q (decide (y ≠ 0)) H → c [some (.int a), some (.int b), some (.int (x : Nat)), some (.int (y : Nat))] H Q) → (∀ σ H Q Q', (∀ b H1, Q b H1 → Q' b H1) → c σ H Q → c σ H Q') → tWhile c tb D σ0 H := by
  intro c hc mono
  subst hσ
  refine while_by (fun σ H' => H' = H ∧ ∃ x' y' : Nat, σ = [some (.int a), some (.int b), some (.int (x' : Nat)), some (.int (y' : Nat))] ∧ Nat.gcd x' y' = Nat.gcd x y) (fun σ _ => sec 3 σ) ⟨rfl, x, y, rfl, rfl⟩ ?_ mono
  rintro σ H' ⟨rfl, x', y', rfl, hg⟩
  refine hc x' y' _ ?_
  by_cases hy : y' = 0
  · subst hy
    refine iteF ?_
    refine hd x' ?_
    rw [← hg, Nat.gcd_zero_right]
  · rw [decide_eq_true hy]
    refine iteT (hb x' y' _ hy ⟨⟨rfl, y', x' % y', rfl, ?_⟩, ?_⟩)
    · rw [gcd_turn, hg]
    · show (x' % y' : Nat) < (y' : Nat)
      exact Nat.mod_lt _ (by omega)
theorem ok_common_divisor {f : Addr} {fd : FuncData} (F : Fun K "common_divisor" "common_divisor" s_common_divisor f fd) (T : Blt mg) : FnOk P w K mg base CX0 1 f fd ["one", "other"] spGcd := by
  refine F.ok sc_common_divisor (fun vs H Q E h => ?_) (fun cdv A outer s H vs Q E hr h => ?_)
  · obtain ⟨a, b, rfl, _⟩ := h
    rfl
  · obtain ⟨a, b, rfl, k⟩ := h
    refine ⟨_, (pss_cons (ps_par (i := 2) (j := 3) (by rfl) sc_common_divisor.nd rfl rfl (by decide) rfl rfl (pa_cons (pe_callB call_abs (by rfl) T.abs (by decide +kernel) (pa_cons (pv 0) pa_nil)) (pa_cons (pe_callB call_abs (by rfl) T.abs (by decide +kernel) (pa_cons (pv 1) pa_nil)) pa_nil)) (by rfl))
      (pss_cons (ps_while PassesOwn.never (pt_truth (pv 3) (by intro _; rfl))
      (pss_one (ps_par (i := 2) (j := 3) (by rfl) sc_common_divisor.nd rfl rfl (by decide) rfl rfl (pa_cons (pv 3) (pa_cons (pe_op op_modN (pe_callTy call_int1 (by rfl) T.int (by decide +kernel) (pa_cons (pv 2) pa_nil)) (pv 3)) pa_nil)) (by rfl))))
      (pss_one (ps_ret (pv 2))))), ?_⟩
    refine ⟨_, rfl, _, rfl, _, rfl, _, rfl, _, _, rfl, ?_⟩
    rw [abs_nat a, abs_nat b]
    dsimp only
    unfold tSeq
    dsimp only
    refine gcd_loop (a := a) (b := b) (x := a.natAbs) (y := b.natAbs) 2 3 rfl ?_ ?_ _ ?_ ?_
    · rintro g rfl
      exact ⟨_, rfl, k⟩
    · intro x y D' hy h
      refine ⟨_, rfl, _, rfl, .inl ⟨_, rfl, ?_⟩⟩
      refine ⟨_, rfl, _, _, rfl, rfl, (by omega), _, _, rfl, ?_⟩
      have e : (x : Int).fmod (y : Int) = ((x % y : Nat) : Int) := by
        rw [Int.fmod_eq_emod_of_nonneg _ (by omega)]; rfl
      show D'.nx [some (.int a), some (.int b), some (.int (y : Nat)), some (.int ((x : Int).fmod (y : Int)))] H
      rw [e]
      exact h
    · intro x y Q q
      refine ⟨_, rfl, _, rfl, ?_⟩
      have e : ((y : Int) != 0) = decide (y ≠ 0) := by
        by_cases h : y = 0
        · subst h; rfl
        · rw [decide_eq_true h]
          exact bne_iff_ne.mpr (by omega)
      rw [e]
      exact q
    · rintro σ H Q Q' f ⟨v, e1, k, e2, q⟩
      exact ⟨v, e1, k, e2, f _ _ q⟩

/-! ### lowest_terms -/
abbrev s_lowest_terms : Stmt := topS 27
theorem sc_lowest_terms : FnScope ["top", "bottom", "part"] ["top", "bottom"] (defScope s_lowest_terms) :=
  ⟨rfl, rfl, rfl, by decide +kernel, rfl, by decide +kernel, by decide +kernel⟩
/-- two whole numbers become the fraction of the first by the second; it lies in a new tuple -/
def spLow : Sp := fun vs H Q _ => ∃ a b : Int, vs = [.int a, .int b] ∧ b ≠ 0 ∧ b.natAbs < 2 ^ 9000 ∧ ∀ v H', Same H H' → Rp.rep H' v (Rat.divInt a b) → Q v H'
theorem low_num {a b : Int} (hb : b ≠ 0) (s : Int) (hs : s = if b < 0 then -((Int.gcd a b : Nat) : Int) else ((Int.gcd a b : Nat) : Int)) : a.fdiv s = (Rat.divInt a b).num ∧ b.fdiv s = ((Rat.divInt a b).den : Int) ∧ s ≠ 0 := by
  have hg : Int.gcd a b ≠ 0 := fun z => hb (Int.gcd_eq_zero_iff.mp z).2
  obtain ⟨a', ha'⟩ := Int.gcd_dvd_left (a := a) (b := b)
  obtain ⟨b', hb'⟩ := Int.gcd_dvd_right (a := a) (b := b)
  have hs0 : s ≠ 0 := by rw [hs]; split <;> omega
  generalize hgg : Int.gcd a b = g at *
  have hgi : (g : Int) ≠ 0 := by omega
  have gn : b.gcd a = g := by rw [Int.gcd_comm]; exact hgg
  rw [Rat.num_divInt, Rat.den_divInt, if_neg hb, gn]
  by_cases hneg : b < 0
  · rw [if_pos hneg] at hs
    have sg : b.sign = -1 := Int.sign_eq_neg_one_of_neg hneg
    refine ⟨?_, ?_, hs0⟩
    · have e1 : a = s * (-a') := by rw [hs, Int.neg_mul_neg]; exact ha'
      have e2 : b.sign * a = (g : Int) * (-a') := by rw [sg, ha']; rw [Int.mul_neg, Int.neg_mul, Int.one_mul]
      rw [e2, Int.mul_ediv_cancel_left _ hgi]
      conv => lhs; rw [e1]
      rw [Int.mul_fdiv_cancel_left _ hs0]
    · have e1 : b = s * (-b') := by rw [hs, Int.neg_mul_neg]; exact hb'
      have hbn : (0 : Int) ≤ -b' := by
        have h1 : (g : Int) * b' < 0 := by rw [← hb']; exact hneg
        have h2 : b' < 0 := by
          refine Classical.byContradiction fun z => ?_
          have := Int.mul_nonneg (show (0 : Int) ≤ g by omega) (show (0 : Int) ≤ b' by omega)
          omega
        omega
      have e2 : b.natAbs = g * (-b').toNat := by
        have : (b.natAbs : Int) = (g : Int) * (-b') := by
          rw [Int.ofNat_natAbs_of_nonpos (by omega), hb', Int.mul_neg]
        have h3 : (((-b').toNat : Nat) : Int) = -b' := Int.toNat_of_nonneg hbn
        rw [← h3] at this
        exact_mod_cast this
      rw [e2, Nat.mul_div_cancel_left _ (by omega), Int.toNat_of_nonneg hbn]
      conv => lhs; rw [e1]
      rw [Int.mul_fdiv_cancel_left _ hs0]
  · rw [if_neg hneg] at hs
    have hpos : 0 < b := by omega
    have sg : b.sign = 1 := Int.sign_eq_one_of_pos hpos
    refine ⟨?_, ?_, hs0⟩
    · rw [sg, Int.one_mul, hs]
      conv => rhs; rw [ha']
      rw [Int.mul_ediv_cancel_left _ hgi]
      conv => lhs; rw [ha']
      rw [Int.mul_fdiv_cancel_left _ hgi]
    · have hbn : (0 : Int) ≤ b' := by
        refine Classical.byContradiction fun z => ?_
        have h1 : (g : Int) * b' > 0 := by rw [← hb']; exact hpos
        have h2 := Int.mul_nonneg (show (0 : Int) ≤ g by omega) (show (0 : Int) ≤ -b' by omega)
        rw [Int.mul_neg] at h2
        omega
      have e2 : b.natAbs = g * b'.toNat := by
        have : (b.natAbs : Int) = (g : Int) * b' := by
          rw [Int.natAbs_of_nonneg (by omega)]; exact hb'
        have h3 : ((b'.toNat : Nat) : Int) = b' := Int.toNat_of_nonneg hbn
        rw [← h3] at this
        exact_mod_cast this
      rw [e2, Nat.mul_div_cancel_left _ (by omega), Int.toNat_of_nonneg hbn, hs]
      conv => lhs; rw [hb']
      rw [Int.mul_fdiv_cancel_left _ hgi]
theorem low_log {a b s : Int} (hb : b ≠ 0) (hl : b.natAbs < 2 ^ 9000) (hs : s = if b < 0 then -((Int.gcd a b : Nat) : Int) else ((Int.gcd a b : Nat) : Int)) : s.natAbs.log2 < 9000 := by
  have e : s.natAbs = Int.gcd a b := by rw [hs]; split <;> omega
  have d : Int.gcd a b ∣ b.natAbs := by
    have := Int.gcd_dvd_right (a := a) (b := b)
    exact Int.natAbs_dvd_natAbs.mpr this
  have le : Int.gcd a b ≤ b.natAbs := Nat.le_of_dvd (by omega) d
  rw [e]
  exact PySem.Flt.log2_lt_of (by decide) (Nat.lt_of_le_of_lt le hl)
theorem ok_lowest_terms {f : Addr} {fd : FuncData} (F : Fun K "lowest_terms" "lowest_terms" s_lowest_terms f fd) (T : Blt mg)
    (D_common_divisor : Dfn P w K mg base CX0 1 "common_divisor" ["one", "other"] spGcd) : FnOk P w K mg base CX0 2 f fd ["top", "bottom"] spLow := by
  refine F.ok sc_lowest_terms (fun vs H Q E h => ?_) (fun cdv A outer s H vs Q E hr h => ?_)
  · obtain ⟨a, b, rfl, _⟩ := h
    rfl
  · obtain ⟨a, b, rfl, hb, hl, k⟩ := h
    refine ⟨_, (pss_cons (ps_set (i := 2) sc_lowest_terms.nd rfl (by first | exact Or.inl rfl | exact Or.inr rfl) (pe_cd D_common_divisor (hr.mono (by decide)) pass0 (pa_cons (pv 0) (pa_cons (pv 1) pa_nil))))
      (pss_cons (ps_if (pt_cmpR op_lt (pv 1) pe_int (nomark _))
      (pss_one (ps_set (i := 2) sc_lowest_terms.nd rfl (by first | exact Or.inl rfl | exact Or.inr rfl) (pe_un un_neg (pv 2))))
      pss_nil)
      (pss_one (ps_ret (pe_tup (pa_cons (pe_op op_fdivX (pv 0) (pv 2)) (pa_cons (pe_op op_fdivX (pv 1) (pv 2)) pa_nil))))))), ?_⟩
    refine ⟨_, rfl, _, rfl, a, b, rfl, ?_⟩
    refine ⟨_, rfl, _, _, rfl, rfl, _, rfl, ?_⟩
    have fin : ∀ s : Int, s = (if b < 0 then -((Int.gcd a b : Nat) : Int) else ((Int.gcd a b : Nat) : Int)) → (tRet (tTup (tCons (tOp (rI (fun _ j => j ≠ 0 ∧ j.natAbs.log2 < 9000) fun i j => .int (i.fdiv j)) (tVar 0) (tVar 2)) (tCons (tOp (rI (fun _ j => j ≠ 0 ∧ j.natAbs.log2 < 9000) fun i j => .int (i.fdiv j)) (tVar 1) (tVar 2)) tNil)))) { nx := fun _ H' => Q .non H', rt := Q } [some (.int a), some (.int b), some (.int s)] H := by
      intro s hs
      obtain ⟨h1, h2, h3⟩ := low_num hb s hs
      have h4 := low_log hb hl hs
      refine ⟨_, rfl, _, rfl, _, _, rfl, rfl, ⟨h3, h4⟩, _, rfl, _, rfl, _, _, rfl, rfl, ⟨h3, h4⟩, (by show 2 ≤ sizeLine; decide), fun p hp => ?_⟩
      refine k _ _ (Same.new hp) ⟨p, rfl, ?_⟩
      rw [upd_same]
      show some (HO.tup [V.int (a.fdiv s), V.int (b.fdiv s)]) = _
      rw [h1, h2]
    refine ite2 (fun c => ?_) (fun c => ?_)
    · have c := of_decide_eq_true c
      refine ⟨_, rfl, _, rfl, ?_⟩
      exact fin _ (if_pos c).symm
    · have c : ¬ b < 0 := fun z => c (decide_eq_true z)
      exact fin _ (if_neg c).symm

/-! ### is_whole -/
/-- a def of the text, whatever its defaults -/
structure FunA (K : PySem.W.Frag) (x qual : Str) (st : Stmt) (f : Addr) (fd : FuncData) : Prop where
  ex : ∃ (oc : Value) (od : Option Addr) (dV kV doc pm : Value) (an : Option Addr) (cdv ct : Value) (osl : Array (Option Value)),
    fd = PySem.W.fnOf x qual (defArgs st) (defBody st) (defScope st) dV kV doc pm an cdv ct ∧ K.lookup f = some ⟨oc, od, .func fd, osl⟩ ∧ PySem.W.codeIn K cdv qual = true
  kp : PySem.W.keepIn K (.ref f) = true
theorem FunA.ok {x qual : Str} {st : Stmt} {f : Addr} {fd : FuncData} {N ps : List Str} {k : Nat} {sp : Sp} (F : FunA K x qual st f fd) (S : FnScope N ps (defScope st)) (len : ∀ vs H Q E, sp vs H Q E → vs.length = ps.length)
    (hbody : ∀ (cdv : Value) (A : Around) (outer : List Env) (s : Shared) (H : Hp) (vs : List V) (Q : VK) (E : XK), Room k (A.deeper (PyProof.Rows.envOfC qual (defScope st) s.heap.objs.size f cdv)) → sp vs H Q E →
      ∃ t, PSs (cxOf CX0 P w K mg base N qual (defScope st) f cdv A outer s H E) (defBody st) t ∧ t { nx := fun _ H' => Q .non H', rt := Q } (start N vs) H) : FnOk P w K mg base CX0 (k + 1) f fd ps sp := by
  obtain ⟨oc, od, dV, kV, doc, pm, an, cdv, ct, osl, rfl, lk, hcd⟩ := F.ex
  exact fn_of lk hcd S len fun A outer s H vs Q E hr hsp => hbody cdv A outer s H vs Q E hr hsp
abbrev s_is_whole : Stmt := topS 20
theorem sc_is_whole : FnScope ["thing", "low", "high"] ["thing", "low", "high"] (defScope s_is_whole) :=
  ⟨rfl, rfl, rfl, by decide +kernel, rfl, by decide +kernel, by decide +kernel⟩
/-- a whole number between two others -/
def spWhole : Sp := fun vs H Q _ => ∃ a lo hi : Int, vs = [.int a, .int lo, .int hi] ∧ lo ≤ a ∧ a ≤ hi ∧ Q (.bl true) H
theorem ok_is_whole {f : Addr} {fd : FuncData} (F : FunA K "is_whole" "is_whole" s_is_whole f fd) (T : Blt mg) : FnOk P w K mg base CX0 1 f fd ["thing", "low", "high"] spWhole := by
  refine F.ok sc_is_whole (fun vs H Q E h => ?_) (fun cdv A outer s H vs Q E hr h => ?_)
  · obtain ⟨a, lo, hi, rfl, _⟩ := h
    rfl
  · obtain ⟨a, lo, hi, rfl, h1, h2, k⟩ := h
    refine ⟨_, (pss_cons (ps_if (PW.pt (pw_or (pt_not (pt_val (pe_callB (call_isiK' (K := K) rfl) (by rfl) T.isinstance (by decide +kernel) (pa_cons (pv 0) (pa_cons (pe_bltn (v := .ty "int") (by rfl) T.int (by decide +kernel) rfl) pa_nil))))) (pw_or1 (pt_val (pe_callB (call_isiK' (K := K) rfl) (by rfl) T.isinstance (by decide +kernel) (pa_cons (pv 0) (pa_cons (pe_bltn (v := .ty "bool") (by rfl) T.bool (by decide +kernel) rfl) pa_nil)))))))
      (pss_one (ps_ret pe_bl))
      pss_nil)
      (pss_cons (ps_if (PW.pt (pw_and (pt_cmpR op_notN (pv 1) pe_non (nomark _)) (pw_and1 (pt_cmpR op_lt (pv 0) (pv 1) (nomark _)))))
      (pss_one (ps_ret pe_bl))
      pss_nil)
      (pss_one (ps_ret (pe_or (pe_cmpR op_isN (pv 2) pe_non (nomark _)) (pe_one (pe_cmpR op_le (pv 0) (pv 2) (nomark _)))))))), ?_⟩
    -- not isinstance(thing, int) or isinstance(thing, bool)
    refine ⟨_, rfl, _, _, _, _, true, rfl, .ty "int", .base (.int _), kit_ty (by decide +kernel), _, rfl, ?_⟩
    refine iteF ?_
    refine ⟨_, rfl, _, _, _, _, false, rfl, .ty "bool", .base (.int _), kit_ty (by decide +kernel), _, rfl, ?_⟩
    refine iteF ?_
    -- low is not None and thing < low
    refine ⟨_, rfl, rfl, _, rfl, ?_⟩
    refine iteT ?_
    refine ⟨_, rfl, _, rfl, _, _, rfl, rfl, _, rfl, ?_⟩
    rw [decide_eq_false (show ¬ a < lo by omega)]
    refine iteF ?_
    refine ⟨_, rfl, rfl, _, rfl, ?_⟩
    refine iteF ?_
    refine ⟨_, rfl, _, rfl, _, _, rfl, rfl, ?_⟩
    show Q (.bl (decide (a ≤ hi))) H
    rw [decide_eq_true h2]
    exact k

/-! ### is_prime -/
abbrev s_is_prime : Stmt := topS 25
theorem sc_is_prime : FnScope ["number", "divisor"] ["number"] (defScope s_is_prime) :=
  ⟨rfl, rfl, rfl, by decide +kernel, rfl, by decide +kernel, by decide +kernel⟩
theorem cm_small {i j : Int} (hi : i.natAbs < 2 ^ 64) (hj : j.natAbs < 2 ^ 64) : CMulW i j := wide_mul hi hj (by decide) (by decide) (by decide)
def spPrime : Sp := fun vs H Q _ => ∃ p : Nat, vs = [.int (p : Nat)] ∧ 2 ≤ p ∧ p ≤ 20000 ∧ (∀ d : Nat, 2 ≤ d → d * d ≤ p → p % d ≠ 0) ∧ Q (.bl true) H
theorem ok_is_prime {f : Addr} {fd : FuncData} (F : Fun K "is_prime" "is_prime" s_is_prime f fd) (T : Blt mg) {u : Value} (gM : mg "MOST_PRIME" = some u) (rM : RelV (.int 20000) u)
    (D_is_whole : Dfn P w K mg base CX0 1 "is_whole" ["thing", "low", "high"] spWhole) : FnOk P w K mg base CX0 2 f fd ["number"] spPrime := by
  refine F.ok sc_is_prime (fun vs H Q E h => ?_) (fun cdv A outer s H vs Q E hr h => ?_)
  · obtain ⟨p, rfl, _⟩ := h
    rfl
  · obtain ⟨p, rfl, h2, hm, hd, k⟩ := h
    refine ⟨_, (pss_cons (ps_if (pt_not (pt_val (pe_cd D_is_whole (hr.mono (by decide)) pass0 (pa_cons (pv 0) (pa_cons pe_int (pa_cons (pe_glob rfl gM rM) pa_nil))))))
      (pss_one (ps_ret pe_bl))
      pss_nil)
      (pss_cons (ps_set (i := 1) sc_is_prime.nd rfl (by first | exact Or.inl rfl | exact Or.inr rfl) pe_int)
      (pss_cons (ps_while PassesOwn.never (pt_cmpR op_le (pe_op op_mulW (pv 1) (pv 1)) (pv 0) (nomark _))
      (pss_cons (ps_if (pt_cmpR op_eq (pe_op op_modN (pe_callTy call_int1 (by rfl) T.int (by decide +kernel) (pa_cons (pv 0) pa_nil)) (pv 1)) pe_int (nomark _))
      (pss_one (ps_ret pe_bl))
      pss_nil)
      (pss_one (ps_set (i := 1) sc_is_prime.nd rfl (by first | exact Or.inl rfl | exact Or.inr rfl) (pe_op op_add (pv 1) pe_int)))))
      (pss_one (ps_ret pe_bl))))), ?_⟩
    refine ⟨_, rfl, _, _, _, rfl, (by omega), (by omega), _, rfl, ?_⟩
    refine iteF ?_
    refine wh (fun σ H' => H' = H ∧ ∃ d : Nat, σ = [some (.int (p : Nat)), some (.int (d : Nat))] ∧ 2 ≤ d ∧ d ≤ p + 2) (fun σ _ => p + 2 - sec 1 σ) ⟨rfl, 2, rfl, Nat.le_refl _, by omega⟩ ?_ ?_
    · rintro σ H' ⟨rfl, d, rfl, hd2, hdp⟩
      refine ⟨_, rfl, _, rfl, _, _, rfl, rfl, cm_small (by omega) (by omega), _, rfl, _, _, rfl, rfl, _, rfl, ?_⟩
      refine ite2 (fun c => ?_) (fun c => ?_)
      · have c := of_decide_eq_true c
        have c' : d * d ≤ p := by exact_mod_cast c
        have hne := hd d hd2 c'
        refine ⟨_, rfl, .inl ⟨_, rfl, _, rfl, _, _, rfl, rfl, by omega, rfl, _, rfl, ?_⟩⟩
        have e : (p : Int).fmod (d : Int) = ((p % d : Nat) : Int) := by
          rw [Int.fmod_eq_emod_of_nonneg _ (by omega)]; rfl
        have ne : ¬ V.int ((p : Int).fmod (d : Int)) = V.int 0 := by
          rw [e]
          intro z
          injection z with z
          omega
        refine ite2 (fun c => absurd (of_decide_eq_true c) ne) (fun _ => ?_)
        refine ⟨_, rfl, _, _, rfl, rfl, ?_⟩
        have hdd : d ≤ d * d := Nat.le_mul_of_pos_left d (by omega)
        refine ⟨⟨rfl, d + 1, rfl, by omega, by omega⟩, ?_⟩
        show p + 2 - (d + 1 : Int).natAbs < p + 2 - (d : Int).natAbs
        omega
      · exact k
    · rintro σ H Q Q' f h
      obtain ⟨v, e, h⟩ := h
      obtain ⟨v', e', i, j, e1, e2, hc, v2, e3, i2, j2, e4, e5, q⟩ := h
      refine ⟨v, e, v', e', i, j, e1, e2, hc, v2, e3, i2, j2, e4, e5, ?_⟩
      obtain ⟨c, ec, q⟩ := q
      exact ⟨c, ec, f _ _ q⟩

/-! ### rest_power -/
abbrev s_rest_power : Stmt := topS 26
theorem sc_rest_power : FnScope ["number", "exponent", "prime", "out", "base", "left", "bit"] ["number", "exponent", "prime"] (defScope s_rest_power) :=
  ⟨rfl, rfl, rfl, by decide +kernel, rfl, by decide +kernel, by decide +kernel⟩
/-- the power of a number modulo a prime -/
def spRest (p : Nat) [PrimeP p] : Sp := fun vs H Q _ => ∃ (x : Fin p) (l : Nat), vs = [.int (x.val : Nat), .int (l : Nat), .int (p : Nat)] ∧ l < 2 ^ 14 ∧ ∀ H', Same H H' → Q (.int ((fpow 14 1 x l).val : Nat)) H'
theorem mod_nat (a p : Nat) : ((a : Nat) : Int).fmod (p : Int) = ((a % p : Nat) : Int) := by
  rw [Int.fmod_eq_emod_of_nonneg _ (by omega)]; rfl
theorem fpow_turn {p : Nat} [PrimeP p] {o b : Fin p} {l : Nat} (h0 : l ≠ 0) (hl : l < 2 ^ 14) : fpow 14 o b l = fpow 14 (if l % 2 = 1 then o * b else o) (b * b) (l / 2) := by
  conv => lhs; unfold fpow
  rw [if_neg h0]
  exact fpow_fuel 13 14 _ _ _ (by omega) (by omega)
theorem ok_rest_power {p : Nat} [PP : PrimeP p] {f : Addr} {fd : FuncData} (F : Fun K "rest_power" "rest_power" s_rest_power f fd) (T : Blt mg) : FnOk P w K mg base CX0 1 f fd ["number", "exponent", "prime"] (spRest p) := by
  refine F.ok sc_rest_power (fun vs H Q E h => ?_) (fun cdv A outer s H vs Q E hr h => ?_)
  · obtain ⟨x, l, rfl, _⟩ := h
    rfl
  · obtain ⟨x, l, rfl, hl, k⟩ := h
    have hp2 := PP.two
    have hpm := PP.most
    have small : ∀ y : Fin p, ((y.val : Nat) : Int).natAbs < 2 ^ 64 := fun y => by have := y.isLt; omega
    refine ⟨_, (pss_cons (ps_set (i := 3) sc_rest_power.nd rfl (by first | exact Or.inl rfl | exact Or.inr rfl) pe_int)
      (pss_cons (ps_set (i := 4) sc_rest_power.nd rfl (by first | exact Or.inl rfl | exact Or.inr rfl) (pe_op op_modN (pe_callTy call_int1 (by rfl) T.int (by decide +kernel) (pa_cons (pv 0) pa_nil)) (pv 2)))
      (pss_cons (ps_set (i := 5) sc_rest_power.nd rfl (by first | exact Or.inl rfl | exact Or.inr rfl) (pv 1))
      (pss_cons (ps_while PassesOwn.never (pt_cmpR op_gt (pv 5) pe_int (nomark _))
      (pss_cons (ps_asg (pe_callB call_divmod (by rfl) T.divmod (by decide +kernel) (pa_cons (pv 5) (pa_cons pe_int pa_nil))) (pg_tup rfl (pgs_cons (pg_name (i := 5) sc_rest_power.nd rfl (by first | exact Or.inl rfl | exact Or.inr rfl)) (pgs_cons (pg_name (i := 6) sc_rest_power.nd rfl (by first | exact Or.inl rfl | exact Or.inr rfl)) pgs_nil))))
      (pss_cons (ps_if (pt_cmpR op_eq (pv 6) pe_int (nomark _))
      (pss_one (ps_set (i := 3) sc_rest_power.nd rfl (by first | exact Or.inl rfl | exact Or.inr rfl) (pe_op op_modN (pe_op op_mulW (pv 3) (pv 4)) (pv 2))))
      pss_nil)
      (pss_one (ps_set (i := 4) sc_rest_power.nd rfl (by first | exact Or.inl rfl | exact Or.inr rfl) (pe_op op_modN (pe_op op_mulW (pv 4) (pv 4)) (pv 2)))))))
      (pss_one (ps_ret (pv 3))))))), ?_⟩
    refine ⟨_, rfl, .inl ⟨_, rfl, _, rfl, _, _, rfl, rfl, (by omega), _, rfl, ?_⟩⟩
    refine wh (fun σ H' => Same H H' ∧ ∃ (o b : Fin p) (m : Nat) (bit : Option V), σ = [some (.int (x.val : Nat)), some (.int (l : Nat)), some (.int (p : Nat)), some (.int (o.val : Nat)), some (.int (b.val : Nat)), some (.int (m : Nat)), bit] ∧ m < 2 ^ 14 ∧ fpow 14 o b m = fpow 14 1 x l)
      (fun σ _ => sec 5 σ) ⟨Same.refl H, 1, x, l, none, ?_, hl, rfl⟩ ?_ ?_
    · have e1 : ((x.val : Nat) : Int).fmod (p : Int) = ((x.val : Nat) : Int) := by rw [mod_nat, Nat.mod_eq_of_lt x.isLt]
      show [some (V.int (x.val : Nat)), some (V.int (l : Nat)), some (V.int (p : Nat)), some (V.int 1), some (V.int (((x.val : Nat) : Int).fmod (p : Int))), some (V.int (l : Nat)), none] = _
      rw [e1, one_val]
      rfl
    · rintro σ H' ⟨hs, o, b, m, bit, rfl, hm, hf⟩
      refine ⟨_, rfl, _, _, rfl, rfl, _, rfl, ?_⟩
      refine ite2 (fun c => ?_) (fun c => ?_)
      · have c : (0 : Int) < (m : Int) := of_decide_eq_true c
        have m0 : m ≠ 0 := by omega
        refine ⟨_, rfl, _, _, rfl, ⟨by decide, by decide⟩, fun t ht => ?_⟩
        refine ⟨t, _, rfl, SqT.of upd_same, rfl, _, _, rfl, _, _, rfl, rfl, ?_⟩
        have e2 : ((m : Nat) : Int) / 2 = ((m / 2 : Nat) : Int) := by rfl
        have e3 : ((m : Nat) : Int) % 2 = ((m % 2 : Nat) : Int) := by rfl
        refine ⟨_, rfl, rfl, _, rfl, ?_⟩
        have E1 : (((b.val : Nat) : Int) * ((b.val : Nat) : Int)).fmod (p : Int) = (((b * b : Fin p).val : Nat) : Int) := by
          rw [← Int.natCast_mul, mod_nat]; rfl
        have E2 : (((o.val : Nat) : Int) * ((b.val : Nat) : Int)).fmod (p : Int) = (((o * b : Fin p).val : Nat) : Int) := by
          rw [← Int.natCast_mul, mod_nat]; rfl
        have tn := fpow_turn (o := o) (b := b) m0 hm
        have ms : m / 2 < m := Nat.div_lt_self (by omega) (by decide)
        have hs2 : Same H (upd H' t (.tup [.int ((m : Nat) / 2 : Int), .int ((m : Nat) % 2 : Int)])) := hs.trans (Same.new ht)
        refine ite2 (fun c2 => ?_) (fun c2 => ?_)
        · have c2 : m % 2 = 1 := by
            have z := of_decide_eq_true c2
            injection z with z
            omega
          refine ⟨_, rfl, _, rfl, _, _, rfl, rfl, cm_small (small o) (small b), _, rfl, _, _, rfl, rfl, (by omega), ?_⟩
          refine ⟨_, rfl, _, rfl, _, _, rfl, rfl, cm_small (small b) (small b), _, rfl, _, _, rfl, rfl, (by omega), ?_⟩
          refine ⟨⟨hs2, o * b, b * b, m / 2, some (.int ((m : Nat) % 2 : Int)), ?_, by omega, ?_⟩, ms⟩
          · show [some (V.int (x.val : Nat)), some (V.int (l : Nat)), some (V.int (p : Nat)), some (V.int ((((o.val : Nat) : Int) * ((b.val : Nat) : Int)).fmod (p : Int))), some (V.int ((((b.val : Nat) : Int) * ((b.val : Nat) : Int)).fmod (p : Int))), some (V.int ((m : Nat) / 2 : Int)), some (V.int ((m : Nat) % 2 : Int))] = _
            rw [E1, E2]
            rfl
          · rw [← hf, tn, if_pos c2]
        · have c2 : ¬ m % 2 = 1 := fun z => c2 (decide_eq_true (by rw [show ((m : Nat) : Int) % 2 = ((m % 2 : Nat) : Int) from rfl, z]; rfl))
          refine ⟨_, rfl, _, rfl, _, _, rfl, rfl, cm_small (small b) (small b), _, rfl, _, _, rfl, rfl, (by omega), ?_⟩
          refine ⟨⟨hs2, o, b * b, m / 2, some (.int ((m : Nat) % 2 : Int)), ?_, by omega, ?_⟩, ms⟩
          · show [some (V.int (x.val : Nat)), some (V.int (l : Nat)), some (V.int (p : Nat)), some (V.int (o.val : Nat)), some (V.int ((((b.val : Nat) : Int) * ((b.val : Nat) : Int)).fmod (p : Int))), some (V.int ((m : Nat) / 2 : Int)), some (V.int ((m : Nat) % 2 : Int))] = _
            rw [E1]
            rfl
          · rw [← hf, tn, if_neg c2]
      · have c : ¬ (0 : Int) < (m : Int) := fun z => c (decide_eq_true z)
        have m0 : m = 0 := by omega
        subst m0
        rw [fpow_zero] at hf
        subst hf
        exact ⟨_, rfl, k _ hs⟩
    · rintro σ H Q Q' f ⟨v, e, i, j, e1, e2, c, ec, q⟩
      exact ⟨v, e, i, j, e1, e2, c, ec, f _ _ q⟩
end
end W26

end

/-! ## WField -/
section
set_option Elab.async false
set_option linter.all false
set_option maxRecDepth 100000
set_option maxHeartbeats 2000000
/-! The two fields' methods. -/
namespace W26
open PySem L2 M26
open Rp
section
variable {P : Program} {w : World} {K : PySem.W.Frag} {mg : Str → Option Value} {base : Heap}
/-! ### a field's object -/
/-- the attributes that callers read; none of them bears a method's name -/
structure FOf (α : Type) [Rp α] (H : Hp) (fs : List (Str × V)) : Prop where
  zero : ∃ v, fs.lookup ("zero" : Str) = some v ∧ rep H v (0 : α)
  one : ∃ v, fs.lookup ("one" : Str) = some v ∧ rep H v (1 : α)
  prime : Fd.p α ≠ 0 → fs.lookup ("prime" : Str) = some (.int (Fd.p α))
  plus : fs.lookup ("plus" : Str) = none
  less : fs.lookup ("less" : Str) = none
  times : fs.lookup ("times" : Str) = none
  quotient : fs.lookup ("quotient" : Str) = none
  power : fs.lookup ("power" : Str) = none
def FO (α : Type) [Rp α] (C : Addr) (H : Hp) (fo : Addr) : Prop := ∃ (dx : Addr) (fs : List (Str × V)), H fo = some (.ins C dx fs) ∧ FOf α H fs
theorem FO.same {α : Type} [Rp α] {C : Addr} {H H' : Hp} {fo : Addr} (s : Same H H') (h : FO α C H fo) : FO α C H' fo := by
  obtain ⟨dx, fs, h1, ⟨v0, z1, z2⟩, ⟨v1, o1, o2⟩, h4, h5, h6, h7, h8, h9⟩ := h
  exact ⟨dx, fs, s _ _ h1, ⟨v0, z1, rep_ts (Tk.of s) z2⟩, ⟨v1, o1, rep_ts (Tk.of s) o2⟩, h4, h5, h6, h7, h8, h9⟩
/-- a method of two numbers -/
def spBin (α : Type) [Rp α] (C : Addr) (op : α → α → α) (ok : α → α → Prop) : Sp := fun vs H Q _ => ∃ (fo : Addr) (v1 v2 : V) (x y : α), vs = [.ref fo, v1, v2] ∧ FO α C H fo ∧ rep H v1 x ∧ rep H v2 y ∧ Fd.Sm x ∧ Fd.Sm y ∧ ok x y ∧
  ∀ v H', Same H H' → rep H' v (op x y) → Q v H'
theorem spBin_len {α : Type} [Rp α] {C : Addr} {op : α → α → α} {ok : α → α → Prop} {vs : List V} {H : Hp} {Q : VK} {E : XK} {ps : List Str} (h : spBin α C op ok vs H Q E) (hp : ps.length = 3) : vs.length = ps.length := by
  obtain ⟨fo, v1, v2, x, y, rfl, _⟩ := h
  rw [hp]; rfl
/-- what callers know of a field's class -/
structure FKit (P : Program) (w : World) (K : PySem.W.Frag) (mg : Str → Option Value) (base : Heap) (α : Type) [Rp α] (C : Addr) : Prop where
  cl : Cls K C
  nz : NoAttr K C "zero"
  no : NoAttr K C "one"
  plus : Mtd P w K mg base CX0 3 C "plus" ["self", "one", "other"] (spBin α C (fun x y => x + y) fun _ _ => True)
  less : Mtd P w K mg base CX0 3 C "less" ["self", "one", "other"] (spBin α C (fun x y => x - y) fun _ _ => True)
  times : Mtd P w K mg base CX0 3 C "times" ["self", "one", "other"] (spBin α C (fun x y => x * y) fun _ _ => True)
  quotient : Mtd P w K mg base CX0 3 C "quotient" ["self", "one", "other"] (spBin α C (fun x y => x * Fl.inv y) fun _ y => y ≠ 0)

/-! ### the numbers modulo a prime -/
abbrev s_ri : Stmt := inClass (topS 28) 0
theorem sc_ri : FnScope ["self", "prime"] ["self", "prime"] (defScope s_ri) :=
  ⟨rfl, rfl, rfl, by decide +kernel, rfl, by decide +kernel, by decide +kernel⟩
abbrev s_rp : Stmt := inClass (topS 28) 4
theorem sc_rp : FnScope ["self", "one", "other"] ["self", "one", "other"] (defScope s_rp) :=
  ⟨rfl, rfl, rfl, by decide +kernel, rfl, by decide +kernel, by decide +kernel⟩
abbrev s_rl : Stmt := inClass (topS 28) 5
theorem sc_rl : FnScope ["self", "one", "other"] ["self", "one", "other"] (defScope s_rl) :=
  ⟨rfl, rfl, rfl, by decide +kernel, rfl, by decide +kernel, by decide +kernel⟩
abbrev s_rt : Stmt := inClass (topS 28) 6
theorem sc_rt : FnScope ["self", "one", "other"] ["self", "one", "other"] (defScope s_rt) :=
  ⟨rfl, rfl, rfl, by decide +kernel, rfl, by decide +kernel, by decide +kernel⟩
abbrev s_rq : Stmt := inClass (topS 28) 7
theorem sc_rq : FnScope ["self", "one", "other"] ["self", "one", "other"] (defScope s_rq) :=
  ⟨rfl, rfl, rfl, by decide +kernel, rfl, by decide +kernel, by decide +kernel⟩
abbrev s_rw : Stmt := inClass (topS 28) 8
theorem sc_rw : FnScope ["self", "number", "exponent"] ["self", "number", "exponent"] (defScope s_rw) :=
  ⟨rfl, rfl, rfl, by decide +kernel, rfl, by decide +kernel, by decide +kernel⟩
section
variable {p : Nat} [PP : PrimeP p]
theorem fin_add (x y : Fin p) : (((x.val : Nat) : Int) + ((y.val : Nat) : Int)).fmod (p : Int) = (((x + y : Fin p).val : Nat) : Int) := by
  rw [← Int.natCast_add, mod_nat, Fin.val_add]
theorem fin_mul (x y : Fin p) : (((x.val : Nat) : Int) * ((y.val : Nat) : Int)).fmod (p : Int) = (((x * y : Fin p).val : Nat) : Int) := by
  rw [← Int.natCast_mul, mod_nat]; rfl
theorem fin_sub (x y : Fin p) : (((x.val : Nat) : Int) - ((y.val : Nat) : Int)).fmod (p : Int) = (((x - y : Fin p).val : Nat) : Int) := by
  have hy := y.isLt
  have e : (((x.val : Nat) : Int) - ((y.val : Nat) : Int)) = ((p - y.val + x.val : Nat) : Int) - (p : Int) := by omega
  have e2 : (x - y : Fin p).val = (p - y.val + x.val) % p := rfl
  rw [e2, Int.fmod_eq_emod_of_nonneg _ (by omega), e, Int.sub_emod_right]
  rfl
theorem fin_small (x : Fin p) : (((x.val : Nat) : Int)).natAbs < 2 ^ 64 := by
  have := x.isLt
  have := PP.most
  omega
theorem fin_p : Fd.p (Fin p) = (p : Int) := rfl
theorem fin_p0 : Fd.p (Fin p) ≠ 0 := by
  have := PP.two
  rw [fin_p]; omega
theorem fin_pi : (p : Int) ≠ 0 := by
  have := PP.two
  omega
variable {C : Addr}
theorem ok_rplus {f : Addr} {fd : FuncData} (F : Fun K "plus" "RestField.plus" s_rp f fd) (T : Blt mg) (c : Cls K C) (np : NoAttr K C "prime") : FnOk P w K mg base CX0 3 f fd ["self", "one", "other"] (spBin (Fin p) C (fun x y => x + y) fun _ _ => True) := by
  refine F.ok sc_rp (fun vs H Q E h => spBin_len h rfl) (fun cdv A outer s H vs Q E hr h => ?_)
  obtain ⟨fo, v1, v2, x, y, rfl, ⟨dx, fs, h1, ff⟩, r1, r2, _, _, _, k⟩ := h
  cases (show v1 = .int (x.val : Int) from r1)
  cases (show v2 = .int (y.val : Int) from r2)
  refine ⟨_, (pss_one (ps_ret (pe_op op_modN (pe_callTy call_int1 (by rfl) T.int (by decide +kernel) (pa_cons (pe_op op_add (pv 1) (pv 2)) pa_nil)) (pe_fldK (K := K) rfl (pv 0) rfl)))), ?_⟩
  refine ⟨_, rfl, _, rfl, _, _, rfl, rfl, .inl ⟨_, rfl, _, rfl, fo, C, dx, fs, _, rfl, h1, c, np, ff.prime (fin_p0 (p := p)), _, _, rfl, rfl, fin_pi (p := p), ?_⟩⟩
  refine k _ H (Same.refl H) ?_
  show V.int ((((x.val : Nat) : Int) + ((y.val : Nat) : Int)).fmod (p : Int)) = _
  rw [fin_add]
theorem ok_rless {f : Addr} {fd : FuncData} (F : Fun K "less" "RestField.less" s_rl f fd) (T : Blt mg) (c : Cls K C) (np : NoAttr K C "prime") : FnOk P w K mg base CX0 3 f fd ["self", "one", "other"] (spBin (Fin p) C (fun x y => x - y) fun _ _ => True) := by
  refine F.ok sc_rl (fun vs H Q E h => spBin_len h rfl) (fun cdv A outer s H vs Q E hr h => ?_)
  obtain ⟨fo, v1, v2, x, y, rfl, ⟨dx, fs, h1, ff⟩, r1, r2, _, _, _, k⟩ := h
  cases (show v1 = .int (x.val : Int) from r1)
  cases (show v2 = .int (y.val : Int) from r2)
  refine ⟨_, (pss_one (ps_ret (pe_op op_modN (pe_callTy call_int1 (by rfl) T.int (by decide +kernel) (pa_cons (pe_op op_sub (pv 1) (pv 2)) pa_nil)) (pe_fldK (K := K) rfl (pv 0) rfl)))), ?_⟩
  refine ⟨_, rfl, _, rfl, _, _, rfl, rfl, .inl ⟨_, rfl, _, rfl, fo, C, dx, fs, _, rfl, h1, c, np, ff.prime (fin_p0 (p := p)), _, _, rfl, rfl, fin_pi (p := p), ?_⟩⟩
  refine k _ H (Same.refl H) ?_
  show V.int ((((x.val : Nat) : Int) - ((y.val : Nat) : Int)).fmod (p : Int)) = _
  rw [fin_sub]
theorem ok_rtimes {f : Addr} {fd : FuncData} (F : Fun K "times" "RestField.times" s_rt f fd) (T : Blt mg) (c : Cls K C) (np : NoAttr K C "prime") : FnOk P w K mg base CX0 3 f fd ["self", "one", "other"] (spBin (Fin p) C (fun x y => x * y) fun _ _ => True) := by
  refine F.ok sc_rt (fun vs H Q E h => spBin_len h rfl) (fun cdv A outer s H vs Q E hr h => ?_)
  obtain ⟨fo, v1, v2, x, y, rfl, ⟨dx, fs, h1, ff⟩, r1, r2, _, _, _, k⟩ := h
  cases (show v1 = .int (x.val : Int) from r1)
  cases (show v2 = .int (y.val : Int) from r2)
  refine ⟨_, (pss_one (ps_ret (pe_op op_modN (pe_callTy call_int1 (by rfl) T.int (by decide +kernel) (pa_cons (pe_op op_mulW (pv 1) (pv 2)) pa_nil)) (pe_fldK (K := K) rfl (pv 0) rfl)))), ?_⟩
  refine ⟨_, rfl, _, rfl, _, _, rfl, rfl, cm_small (fin_small x) (fin_small y), .inl ⟨_, rfl, _, rfl, fo, C, dx, fs, _, rfl, h1, c, np, ff.prime (fin_p0 (p := p)), _, _, rfl, rfl, fin_pi (p := p), ?_⟩⟩
  refine k _ H (Same.refl H) ?_
  show V.int ((((x.val : Nat) : Int) * ((y.val : Nat) : Int)).fmod (p : Int)) = _
  rw [fin_mul]
/-- the power -1 -/
def spPow (p : Nat) [PrimeP p] (C : Addr) : Sp := fun vs H Q _ => ∃ (fo : Addr) (y : Fin p), vs = [.ref fo, .int (y.val : Nat), .int (-1)] ∧ FO (Fin p) C H fo ∧ y ≠ 0 ∧ ∀ H', Same H H' → Q (.int ((finInv y).val : Nat)) H'
theorem ok_rpower {f : Addr} {fd : FuncData} (F : Fun K "power" "RestField.power" s_rw f fd) (T : Blt mg) (c : Cls K C) (np : NoAttr K C "prime")
    (D_rest_power : Dfn P w K mg base CX0 1 "rest_power" ["number", "exponent", "prime"] (spRest p)) : FnOk P w K mg base CX0 2 f fd ["self", "number", "exponent"] (spPow p C) := by
  refine F.ok sc_rw (fun vs H Q E h => ?_) (fun cdv A outer s H vs Q E hr h => ?_)
  · obtain ⟨fo, y, rfl, _⟩ := h
    rfl
  · obtain ⟨fo, y, rfl, ⟨dx, fs, h1, ff⟩, hy, k⟩ := h
    have hp2 := PP.two
    have hpm := PP.most
    refine ⟨_, (pss_cons (ps_if (pt_cmpR op_eq (pv 1) pe_int (nomark _))
      (pss_cons (ps_if (pt_cmpR op_lt (pv 2) pe_int (nomark _))
      (pss_one ps_never)
      pss_nil)
      (pss_one (ps_ret (pe_ifExp (pt_cmpR op_eq (pv 2) pe_int (nomark _)) pe_int pe_int))))
      pss_nil)
      (pss_one (ps_ret (pe_cd D_rest_power (hr.mono (by decide)) pass0 (pa_cons (pv 1) (pa_cons (pe_op op_modN (pe_callTy call_int1 (by rfl) T.int (by decide +kernel) (pa_cons (pv 2) pa_nil)) (pe_op op_sub (pe_fldK (K := K) rfl (pv 0) rfl) pe_int)) (pa_cons (pe_fldK (K := K) rfl (pv 0) rfl) pa_nil))))))), ?_⟩
    refine ⟨_, rfl, rfl, _, rfl, ?_⟩
    refine ite2 (fun z => absurd (of_decide_eq_true z) (fun z => hy (Fin.ext (by injection z with z; show y.val = 0; omega)))) (fun _ => ?_)
    refine ⟨_, rfl, _, rfl, .inl ⟨_, rfl, _, rfl, fo, C, dx, fs, _, rfl, h1, c, np, ff.prime (fin_p0 (p := p)), _, _, rfl, rfl, _, _, rfl, rfl, (by show (p : Int) - 1 ≠ 0; omega), ?_⟩⟩
    refine ⟨_, rfl, fo, C, dx, fs, _, rfl, h1, c, np, ff.prime (fin_p0 (p := p)), y, p - 2, ?_, by omega, fun H' s => k H' s⟩
    have e : (-1 : Int).fmod ((p : Int) - 1) = ((p - 2 : Nat) : Int) := by
      rw [Int.fmod_eq_emod_of_nonneg _ (by omega)]
      have : (-1 : Int) = ((p - 2 : Nat) : Int) - ((p : Int) - 1) := by omega
      rw [this, Int.sub_emod_right]
      exact Int.emod_eq_of_lt (by omega) (by omega)
    show [V.int (y.val : Nat), V.int ((-1 : Int).fmod ((p : Int) - 1)), V.int (p : Nat)] = _
    rw [e]
theorem ok_rquotient {f : Addr} {fd : FuncData} (F : Fun K "quotient" "RestField.quotient" s_rq f fd) (T : Blt mg) (c : Cls K C) (np : NoAttr K C "prime")
    (M : Mtd P w K mg base CX0 2 C "power" ["self", "number", "exponent"] (spPow p C)) : FnOk P w K mg base CX0 3 f fd ["self", "one", "other"] (spBin (Fin p) C (fun x y => x * Fl.inv y) fun _ y => y ≠ 0) := by
  refine F.ok sc_rq (fun vs H Q E h => spBin_len h rfl) (fun cdv A outer s H vs Q E hr h => ?_)
  obtain ⟨fo, v1, v2, x, y, rfl, FF, r1, r2, _, _, hy, k⟩ := h
  obtain ⟨dx, fs, h1, ff⟩ := id FF
  cases (show v1 = .int (x.val : Int) from r1)
  cases (show v2 = .int (y.val : Int) from r2)
  refine ⟨_, (pss_one (ps_ret (pe_op op_modN (pe_callTy call_int1 (by rfl) T.int (by decide +kernel) (pa_cons (pe_op op_mulW (pv 1) (pe_md (pv 0) c M (hr.mono (by decide)) pass0 (pa_cons (pv 2) (pa_cons (pe_un un_neg pe_int) pa_nil)))) pa_nil)) (pe_fldK (K := K) rfl (pv 0) rfl)))), ?_⟩
  refine ⟨_, rfl, _, rfl, fo, dx, fs, rfl, h1, ff.power, _, rfl, _, rfl, fo, y, rfl, FF, hy, fun H' s => ?_⟩
  obtain ⟨dx, fs, h1, ff⟩ := FF.same s
  refine ⟨_, _, rfl, rfl, cm_small (fin_small x) (fin_small _), .inl ⟨_, rfl, _, rfl, fo, C, dx, fs, _, rfl, h1, c, np, ff.prime (fin_p0 (p := p)), _, _, rfl, rfl, fin_pi (p := p), ?_⟩⟩
  refine k _ H' s ?_
  show V.int ((((x.val : Nat) : Int) * (((finInv y).val : Nat) : Int)).fmod (p : Int)) = _
  rw [fin_mul]
  rfl
/-- the maker: the object at x gets its attributes -/
def spInit (α : Type) [Rp α] (C : Addr) (args : List V) : Sp := fun vs H Q _ => ∃ (x dx : Addr), vs = .ref x :: args ∧ H x = some (.ins C dx []) ∧ ∀ H', FO α C H' x → (∀ b o, H b = some o → b ≠ x → H' b = some o) → Q .non H'
theorem ok_rinit {f : Addr} {fd : FuncData} (F : Fun K "__init__" "RestField.__init__" s_ri f fd) (T : Blt mg) (c : Cls K C) (np : NoAttr K C "prime") (nz : NoAttr K C "zero") (no : NoAttr K C "one") (nm : NoAttr K C "minus_one")
    (D_is_prime : Dfn P w K mg base CX0 2 "is_prime" ["number"] spPrime) : FnOk P w K mg base CX0 3 f fd ["self", "prime"] (spInit (Fin p) C [.int (p : Nat)]) := by
  refine F.ok sc_ri (fun vs H Q E h => ?_) (fun cdv A outer s H vs Q E hr h => ?_)
  · obtain ⟨x, dx, rfl, _⟩ := h
    rfl
  · obtain ⟨x, dx, rfl, h1, k⟩ := h
    refine ⟨_, (pss_cons (ps_if (pt_not (pt_val (pe_cd D_is_prime (hr.mono (by decide)) pass0 (pa_cons (pv 1) pa_nil))))
      (pss_one ps_never)
      pss_nil)
      (pss_cons (ps_fld (pv 0) (pv 1) rfl)
      (pss_cons (ps_fld (pv 0) pe_int rfl)
      (pss_cons (ps_fld (pv 0) pe_int rfl)
      (pss_one (ps_fld (pv 0) (pe_op op_sub (pv 1) pe_int) rfl)))))), ?_⟩
    refine ⟨_, rfl, p, rfl, PP.two, Nat.le_trans PP.most (by decide), fun d h2 hd => PP.noDiv h2 hd, _, rfl, ?_⟩
    refine iteF ?_
    refine ⟨_, rfl, _, rfl, x, C, dx, [], rfl, h1, c, np, (by show 0 < 1000; decide), ?_⟩
    refine ⟨_, rfl, x, C, dx, _, rfl, upd_same, c, nz, (by show 1 < 1000; decide), ?_⟩
    refine ⟨_, rfl, x, C, dx, _, rfl, upd_same, c, no, (by show 2 < 1000; decide), ?_⟩
    refine ⟨_, rfl, _, _, rfl, rfl, _, rfl, x, C, dx, _, rfl, upd_same, c, nm, (by show 3 < 1000; decide), ?_⟩
    refine k _ ⟨dx, _, upd_same, ⟨_, rfl, rfl⟩, ⟨_, rfl, ?_⟩, fun _ => rfl, rfl, rfl, rfl, rfl, rfl⟩ fun b o e hb => ?_
    · show V.int 1 = V.int (((1 : Fin p).val : Nat) : Int)
      rw [one_val]; rfl
    · rw [upd_ne hb, upd_ne hb, upd_ne hb, upd_ne hb]; exact e
end
end
end W26

end

/-! ## WFrac -/
section
set_option Elab.async false
set_option linter.all false
set_option maxRecDepth 100000
set_option maxHeartbeats 2000000
/-! The fractions' methods. -/
namespace W26
open PySem L2 M26
open Rp
section
variable {P : Program} {w : World} {K : PySem.W.Frag} {mg : Str → Option Value} {base : Heap}
abbrev s_fi : Stmt := inClass (topS 29) 0
theorem sc_fi : FnScope ["self"] ["self"] (defScope s_fi) :=
  ⟨rfl, rfl, rfl, by decide +kernel, rfl, by decide +kernel, by decide +kernel⟩
abbrev s_fp : Stmt := inClass (topS 29) 4
theorem sc_fp : FnScope ["self", "one", "other"] ["self", "one", "other"] (defScope s_fp) :=
  ⟨rfl, rfl, rfl, by decide +kernel, rfl, by decide +kernel, by decide +kernel⟩
abbrev s_fl : Stmt := inClass (topS 29) 5
theorem sc_fl : FnScope ["self", "one", "other"] ["self", "one", "other"] (defScope s_fl) :=
  ⟨rfl, rfl, rfl, by decide +kernel, rfl, by decide +kernel, by decide +kernel⟩
abbrev s_ft : Stmt := inClass (topS 29) 6
theorem sc_ft : FnScope ["self", "one", "other"] ["self", "one", "other"] (defScope s_ft) :=
  ⟨rfl, rfl, rfl, by decide +kernel, rfl, by decide +kernel, by decide +kernel⟩
abbrev s_fq : Stmt := inClass (topS 29) 7
theorem sc_fq : FnScope ["self", "one", "other"] ["self", "one", "other"] (defScope s_fq) :=
  ⟨rfl, rfl, rfl, by decide +kernel, rfl, by decide +kernel, by decide +kernel⟩
theorem rat_add (x y : Rat) : Rat.divInt (x.num * (y.den : Int) + y.num * (x.den : Int)) ((x.den : Int) * (y.den : Int)) = x + y := by
  have hx : (x.den : Int) ≠ 0 := by have := x.den_nz; omega
  have hy : (y.den : Int) ≠ 0 := by have := y.den_nz; omega
  have := Rat.divInt_add_divInt x.num y.num hx hy
  rw [Rat.num_divInt_den, Rat.num_divInt_den] at this
  exact this.symm
theorem rat_sub (x y : Rat) : Rat.divInt (x.num * (y.den : Int) - y.num * (x.den : Int)) ((x.den : Int) * (y.den : Int)) = x - y := by
  have hx : (x.den : Int) ≠ 0 := by have := x.den_nz; omega
  have hy : (y.den : Int) ≠ 0 := by have := y.den_nz; omega
  have := Rat.divInt_sub_divInt x.num y.num hx hy
  rw [Rat.num_divInt_den, Rat.num_divInt_den] at this
  exact this.symm
theorem rat_mul (x y : Rat) : Rat.divInt (x.num * y.num) ((x.den : Int) * (y.den : Int)) = x * y := by
  have := Rat.divInt_mul_divInt x.num y.num (d₁ := (x.den : Int)) (d₂ := (y.den : Int))
  rw [Rat.num_divInt_den, Rat.num_divInt_den] at this
  exact this.symm
theorem rat_quot (x y : Rat) : Rat.divInt (x.num * (y.den : Int)) ((x.den : Int) * y.num) = x * Fl.inv y := by
  show _ = x * y⁻¹
  have := Rat.divInt_mul_divInt x.num (y.den : Int) (d₁ := (x.den : Int)) (d₂ := y.num)
  rw [Rat.num_divInt_den] at this
  rw [Rat.inv_def]
  exact this.symm
theorem den_small {x : Rat} (h : Fd.Sm x) : ((x.den : Int)).natAbs < 2 ^ 4500 := by
  have := h.2
  rw [Int.natAbs_natCast]
  exact this
theorem num_small {x : Rat} (h : Fd.Sm x) : x.num.natAbs < 2 ^ 4500 := h.1
theorem mul9 {i j : Int} (hi : i.natAbs < 2 ^ 4500) (hj : j.natAbs < 2 ^ 4500) : (i * j).natAbs < 2 ^ 9000 := wide_lt hi hj
theorem cm9 {i j : Int} (hi : i.natAbs < 2 ^ 4500) (hj : j.natAbs < 2 ^ 4500) : CMulW i j := wide_mul hi hj (by decide) (by decide) (by decide)
theorem den_ne (x y : Rat) : (x.den : Int) * (y.den : Int) ≠ 0 := by
  have hx : (x.den : Int) ≠ 0 := by have := x.den_nz; omega
  have hy : (y.den : Int) ≠ 0 := by have := y.den_nz; omega
  exact Int.mul_ne_zero hx hy
variable {C : Addr}
theorem ok_fplus {f : Addr} {fd : FuncData} (F : Fun K "plus" "FractionField.plus" s_fp f fd) (D_lowest_terms : Dfn P w K mg base CX0 2 "lowest_terms" ["top", "bottom"] spLow) :
    FnOk P w K mg base CX0 3 f fd ["self", "one", "other"] (spBin Rat C (fun x y => x + y) fun _ _ => True) := by
  refine F.ok sc_fp (fun vs H Q E h => spBin_len h rfl) (fun cdv A outer s H vs Q E hr h => ?_)
  obtain ⟨fo, v1, v2, x, y, rfl, _, ⟨a, rfl, h1⟩, ⟨b, rfl, h2⟩, sx, sy, _, k⟩ := h
  have x0 := SqT.of (K := K) h1
  have y0 := SqT.of (K := K) h2
  refine ⟨_, (pss_one (ps_ret (pe_cd D_lowest_terms (hr.mono (by decide)) pass0 (pa_cons (pe_op op_add (pe_op op_mulW (pe_ix (ix_tupK (K := K) rfl) (pv 1) pe_int (fun _ _ => rfl)) (pe_ix (ix_tupK (K := K) rfl) (pv 2) pe_int (fun _ _ => rfl))) (pe_op op_mulW (pe_ix (ix_tupK (K := K) rfl) (pv 2) pe_int (fun _ _ => rfl)) (pe_ix (ix_tupK (K := K) rfl) (pv 1) pe_int (fun _ _ => rfl)))) (pa_cons (pe_op op_mulW (pe_ix (ix_tupK (K := K) rfl) (pv 1) pe_int (fun _ _ => rfl)) (pe_ix (ix_tupK (K := K) rfl) (pv 2) pe_int (fun _ _ => rfl))) pa_nil))))), ?_⟩
  refine ⟨_, rfl, a, _, 0, _, rfl, rfl, x0, rfl, _, rfl, b, _, 1, _, rfl, rfl, y0, rfl, _, _, rfl, rfl, cm9 (num_small sx) (den_small sy), ?_⟩
  refine ⟨_, rfl, b, _, 0, _, rfl, rfl, y0, rfl, _, rfl, a, _, 1, _, rfl, rfl, x0, rfl, _, _, rfl, rfl, cm9 (num_small sy) (den_small sx), _, _, rfl, rfl, ?_⟩
  refine ⟨_, rfl, a, _, 1, _, rfl, rfl, x0, rfl, _, rfl, b, _, 1, _, rfl, rfl, y0, rfl, _, _, rfl, rfl, cm9 (den_small sx) (den_small sy), ?_⟩
  refine ⟨_, _, rfl, den_ne x y, mul9 (den_small sx) (den_small sy), fun v H' s r => k v H' s ?_⟩
  rw [rat_add] at r
  exact r
theorem ok_fless {f : Addr} {fd : FuncData} (F : Fun K "less" "FractionField.less" s_fl f fd) (D_lowest_terms : Dfn P w K mg base CX0 2 "lowest_terms" ["top", "bottom"] spLow) :
    FnOk P w K mg base CX0 3 f fd ["self", "one", "other"] (spBin Rat C (fun x y => x - y) fun _ _ => True) := by
  refine F.ok sc_fl (fun vs H Q E h => spBin_len h rfl) (fun cdv A outer s H vs Q E hr h => ?_)
  obtain ⟨fo, v1, v2, x, y, rfl, _, ⟨a, rfl, h1⟩, ⟨b, rfl, h2⟩, sx, sy, _, k⟩ := h
  have x0 := SqT.of (K := K) h1
  have y0 := SqT.of (K := K) h2
  refine ⟨_, (pss_one (ps_ret (pe_cd D_lowest_terms (hr.mono (by decide)) pass0 (pa_cons (pe_op op_sub (pe_op op_mulW (pe_ix (ix_tupK (K := K) rfl) (pv 1) pe_int (fun _ _ => rfl)) (pe_ix (ix_tupK (K := K) rfl) (pv 2) pe_int (fun _ _ => rfl))) (pe_op op_mulW (pe_ix (ix_tupK (K := K) rfl) (pv 2) pe_int (fun _ _ => rfl)) (pe_ix (ix_tupK (K := K) rfl) (pv 1) pe_int (fun _ _ => rfl)))) (pa_cons (pe_op op_mulW (pe_ix (ix_tupK (K := K) rfl) (pv 1) pe_int (fun _ _ => rfl)) (pe_ix (ix_tupK (K := K) rfl) (pv 2) pe_int (fun _ _ => rfl))) pa_nil))))), ?_⟩
  refine ⟨_, rfl, a, _, 0, _, rfl, rfl, x0, rfl, _, rfl, b, _, 1, _, rfl, rfl, y0, rfl, _, _, rfl, rfl, cm9 (num_small sx) (den_small sy), ?_⟩
  refine ⟨_, rfl, b, _, 0, _, rfl, rfl, y0, rfl, _, rfl, a, _, 1, _, rfl, rfl, x0, rfl, _, _, rfl, rfl, cm9 (num_small sy) (den_small sx), _, _, rfl, rfl, ?_⟩
  refine ⟨_, rfl, a, _, 1, _, rfl, rfl, x0, rfl, _, rfl, b, _, 1, _, rfl, rfl, y0, rfl, _, _, rfl, rfl, cm9 (den_small sx) (den_small sy), ?_⟩
  refine ⟨_, _, rfl, den_ne x y, mul9 (den_small sx) (den_small sy), fun v H' s r => k v H' s ?_⟩
  rw [rat_sub] at r
  exact r
theorem ok_ftimes {f : Addr} {fd : FuncData} (F : Fun K "times" "FractionField.times" s_ft f fd) (D_lowest_terms : Dfn P w K mg base CX0 2 "lowest_terms" ["top", "bottom"] spLow) :
    FnOk P w K mg base CX0 3 f fd ["self", "one", "other"] (spBin Rat C (fun x y => x * y) fun _ _ => True) := by
  refine F.ok sc_ft (fun vs H Q E h => spBin_len h rfl) (fun cdv A outer s H vs Q E hr h => ?_)
  obtain ⟨fo, v1, v2, x, y, rfl, _, ⟨a, rfl, h1⟩, ⟨b, rfl, h2⟩, sx, sy, _, k⟩ := h
  have x0 := SqT.of (K := K) h1
  have y0 := SqT.of (K := K) h2
  refine ⟨_, (pss_one (ps_ret (pe_cd D_lowest_terms (hr.mono (by decide)) pass0 (pa_cons (pe_op op_mulW (pe_ix (ix_tupK (K := K) rfl) (pv 1) pe_int (fun _ _ => rfl)) (pe_ix (ix_tupK (K := K) rfl) (pv 2) pe_int (fun _ _ => rfl))) (pa_cons (pe_op op_mulW (pe_ix (ix_tupK (K := K) rfl) (pv 1) pe_int (fun _ _ => rfl)) (pe_ix (ix_tupK (K := K) rfl) (pv 2) pe_int (fun _ _ => rfl))) pa_nil))))), ?_⟩
  refine ⟨_, rfl, a, _, 0, _, rfl, rfl, x0, rfl, _, rfl, b, _, 0, _, rfl, rfl, y0, rfl, _, _, rfl, rfl, cm9 (num_small sx) (num_small sy), ?_⟩
  refine ⟨_, rfl, a, _, 1, _, rfl, rfl, x0, rfl, _, rfl, b, _, 1, _, rfl, rfl, y0, rfl, _, _, rfl, rfl, cm9 (den_small sx) (den_small sy), ?_⟩
  refine ⟨_, _, rfl, den_ne x y, mul9 (den_small sx) (den_small sy), fun v H' s r => k v H' s ?_⟩
  rw [rat_mul] at r
  exact r
theorem ok_fquotient {f : Addr} {fd : FuncData} (F : Fun K "quotient" "FractionField.quotient" s_fq f fd) (D_lowest_terms : Dfn P w K mg base CX0 2 "lowest_terms" ["top", "bottom"] spLow) :
    FnOk P w K mg base CX0 3 f fd ["self", "one", "other"] (spBin Rat C (fun x y => x * Fl.inv y) fun _ y => y ≠ 0) := by
  refine F.ok sc_fq (fun vs H Q E h => spBin_len h rfl) (fun cdv A outer s H vs Q E hr h => ?_)
  obtain ⟨fo, v1, v2, x, y, rfl, _, ⟨a, rfl, h1⟩, ⟨b, rfl, h2⟩, sx, sy, hy, k⟩ := h
  have x0 := SqT.of (K := K) h1
  have y0 := SqT.of (K := K) h2
  have yn : y.num ≠ 0 := fun z => hy (Rat.num_eq_zero.mp z)
  refine ⟨_, (pss_cons (ps_if (pt_cmpR op_eq (pe_ix (ix_tupK (K := K) rfl) (pv 2) pe_int (fun _ _ => rfl)) pe_int (nomark _))
      (pss_one ps_never)
      pss_nil)
      (pss_one (ps_ret (pe_cd D_lowest_terms (hr.mono (by decide)) pass0 (pa_cons (pe_op op_mulW (pe_ix (ix_tupK (K := K) rfl) (pv 1) pe_int (fun _ _ => rfl)) (pe_ix (ix_tupK (K := K) rfl) (pv 2) pe_int (fun _ _ => rfl))) (pa_cons (pe_op op_mulW (pe_ix (ix_tupK (K := K) rfl) (pv 1) pe_int (fun _ _ => rfl)) (pe_ix (ix_tupK (K := K) rfl) (pv 2) pe_int (fun _ _ => rfl))) pa_nil)))))), ?_⟩
  refine ⟨_, rfl, b, _, 0, _, rfl, rfl, y0, rfl, rfl, _, rfl, ?_⟩
  refine ite2 (fun z => absurd (of_decide_eq_true z) (fun z => yn (by injection z))) (fun _ => ?_)
  refine ⟨_, rfl, a, _, 0, _, rfl, rfl, x0, rfl, _, rfl, b, _, 1, _, rfl, rfl, y0, rfl, _, _, rfl, rfl, cm9 (num_small sx) (den_small sy), ?_⟩
  refine ⟨_, rfl, a, _, 1, _, rfl, rfl, x0, rfl, _, rfl, b, _, 0, _, rfl, rfl, y0, rfl, _, _, rfl, rfl, cm9 (den_small sx) (num_small sy), ?_⟩
  refine ⟨_, _, rfl, Int.mul_ne_zero (by have := x.den_nz; omega) yn, mul9 (den_small sx) (num_small sy), fun v H' s r => k v H' s ?_⟩
  rw [rat_quot] at r
  exact r
theorem ok_finit {f : Addr} {fd : FuncData} (F : Fun K "__init__" "FractionField.__init__" s_fi f fd) (c : Cls K C) (nz : NoAttr K C "zero") (no : NoAttr K C "one") (nm : NoAttr K C "minus_one") :
    FnOk P w K mg base CX0 3 f fd ["self"] (spInit Rat C []) := by
  refine F.ok sc_fi (fun vs H Q E h => ?_) (fun cdv A outer s H vs Q E hr h => ?_)
  · obtain ⟨x, dx, rfl, _⟩ := h
    rfl
  · obtain ⟨x, dx, rfl, h1, k⟩ := h
    refine ⟨_, (pss_cons (ps_fld (pv 0) (pe_tup (pa_cons pe_int (pa_cons pe_int pa_nil))) rfl)
      (pss_cons (ps_fld (pv 0) (pe_tup (pa_cons pe_int (pa_cons pe_int pa_nil))) rfl)
      (pss_one (ps_fld (pv 0) (pe_tup (pa_cons (pe_un un_neg pe_int) (pa_cons pe_int pa_nil))) rfl)))), ?_⟩
    refine ⟨(by show 2 ≤ sizeLine; decide), fun p0 n0 => ?_⟩
    have x0 : x ≠ p0 := ne_of_none h1 n0
    refine ⟨_, rfl, x, C, dx, [], rfl, (by rw [upd_ne x0]; exact h1), c, nz, (by show 0 < 1000; decide), ?_⟩
    refine ⟨(by show 2 ≤ sizeLine; decide), fun p1 n1 => ?_⟩
    have x1 : x ≠ p1 := ne_of_none upd_same n1
    have p01 : p0 ≠ p1 := ne_of_none (by rw [upd_ne (Ne.symm x0)]; exact upd_same) n1
    refine ⟨_, rfl, x, C, dx, _, rfl, (by rw [upd_ne x1]; exact upd_same), c, no, (by show 1 < 1000; decide), ?_⟩
    refine ⟨_, rfl, (by show 2 ≤ sizeLine; decide), fun p2 n2 => ?_⟩
    have x2 : x ≠ p2 := ne_of_none upd_same n2
    have p02 : p0 ≠ p2 := ne_of_none (by rw [upd_ne (Ne.symm x0), upd_ne p01, upd_ne (Ne.symm x0)]; exact upd_same) n2
    have p12 : p1 ≠ p2 := ne_of_none (by rw [upd_ne (Ne.symm x1)]; exact upd_same) n2
    refine ⟨_, rfl, x, C, dx, _, rfl, (by rw [upd_ne x2]; exact upd_same), c, nm, (by show 2 < 1000; decide), ?_⟩
    refine k _ ⟨dx, _, upd_same, ⟨_, rfl, p0, rfl, ?_⟩, ⟨_, rfl, p1, rfl, ?_⟩, fun z => absurd rfl z, rfl, rfl, rfl, rfl, rfl⟩ fun b o e hb => ?_
    · rw [upd_ne (Ne.symm x0), upd_ne p02, upd_ne (Ne.symm x0), upd_ne p01, upd_ne (Ne.symm x0)]
      exact upd_same
    · rw [upd_ne (Ne.symm x1), upd_ne p12, upd_ne (Ne.symm x1)]
      exact upd_same
    · rw [upd_ne hb, Same.new n2 b o ?_]
      rw [upd_ne hb, Same.new n1 b o ?_]
      rw [upd_ne hb, Same.new n0 b o e]
end
end W26

end

/-! ## WIter -/
section
set_option Elab.async false
set_option linter.all false
set_option maxRecDepth 100000
set_option maxHeartbeats 2000000
/-! Walks that the layer has no rule for: enumerate of a tuple, zip of a tuple and a list. -/
namespace W26
open PySem L2 M26
open PySem.Sem (wp)
open PyProof.Rows
/-! ### a tuple's iterator draws its items -/
theorem tupDraws {prog : Program} {w : World} {A : Around} (hh : A.handled = none) (it l : Addr) (hne : l ≠ it) (items : Array Value) :
    Draws prog w A it [it, l] items.size (fun i v => items[i]? = some v) (fun i h => h.IsTupleIter it l i ∧ h.IsTuple l items) := by
  refine ⟨fun i h st => ?_, fun i h h' st k => ?_, fun i s Q E hi st hQ => ?_, fun s Q E st hE => ?_⟩
  · obtain ⟨⟨o, ho, _⟩, _⟩ := st
    exact ⟨o, ho⟩
  · obtain ⟨t1, o, ho, r⟩ := st
    exact ⟨t1.at fun q e => k it (by simp) q e, o, k l (by simp) o ho, r⟩
  · have e : items[i]? = some items[i] := by simp [hi]
    exact RZ.nextOf_tuple_item st.1 st.2 e fun h' t' sb => hQ _ h' s.toks e ⟨t', st.2.extBut sb.extBut hne⟩ sb
  · exact RZ.nextOf_tuple_end hh st.1 st.2 (by simp) hE
/-! ### enumerate(tuple) -/
theorem enumNewT (l : Addr) (items : Array Value) (n : Nat) (dct : Option Addr) (sl : Array (Option Value)) :
    Meets (Builtin.«enumerate.__new__» ⟨[.type "enumerate", .ref l], []⟩) (fun _ R s => s.heap.get? l = some { cls := .type "tuple", dict := dct, data := .seq items n, slots := sl } ∧
      R (.ok (.ret (.ref (s.heap.push { cls := .type "tuple_iterator", data := .fields #[.ref l, .int 0 0] }).objs.size)))
        { s with heap := (s.heap.push { cls := .type "tuple_iterator", data := .fields #[.ref l, .int 0 0] }).push { cls := .type "enumerate", data := .fields #[.none, .bool false, .ref s.heap.objs.size, rawInt 0, .none, .none] } }) :=
  .of_wp fun prog w A R s hs => by
    obtain ⟨hp, g, d, tk, os⟩ := s
    obtain ⟨hl, hR⟩ := hs
    have sub := sub_enumerate
    have hT : Heap.IsTuple (Shared.heap ⟨hp, g, d, tk, os⟩) l items := ⟨_, hl, rfl, n, rfl⟩
    wp_walk using AutoSeq1.wpAny_loadPart' hl
    refine wpAny_stack_any fun st => wpAny_pure ?_
    split
    · rename_i c _ _ _ _ _
      cases (c == Value.type "enumerate") <;>
        (wp_walk using AutoSeq1.wpAny_loadPart' hl, wpAny_pyIter_tuple hT; exact ⟨_, rfl, hR⟩)
    · wp_walk using AutoSeq1.wpAny_loadPart' hl, wpAny_pyIter_tuple hT
      exact ⟨_, rfl, hR⟩
theorem enumCallT {prog : Program} {w : World} {A : Around} {E : Value → Shared → Prop} {s : Shared} {l : Addr} {items : Array Value} {Q : Value → Shared → Prop} (hT : s.heap.IsTuple l items)
    (h : ∀ h', IsEnum h' (s.heap.objs.size + 1) s.heap.objs.size 0 .none → h'.IsTupleIter s.heap.objs.size l 0 → (∀ b o, s.heap.get? b = some o → h'.get? b = some o) → Q (.ref (s.heap.objs.size + 1)) { s with heap := h' }) :
    wpAny (model prog w) A (call (.type "enumerate") [.ref l]) Q E s := by
  obtain ⟨⟨c, dct, dt, sl⟩, hl, hc, n, hd⟩ := hT
  cases (show c = .type "tuple" from hc)
  cases (show dt = .seq items n from hd)
  refine callType_new F.called_enumerate (by decide) (F.typeCall_enumerate_1 _) (F.newCall_enumerate_1 _) (fun obj => F.args_object_init_2 obj _) F.entry_enumerate_new
    (enumNewT l items n dct sl) ⟨hl, ?_⟩
  have z : (s.heap.push { cls := .type "tuple_iterator", data := .fields #[.ref l, .int 0 0] }).objs.size = s.heap.objs.size + 1 := Heap.size_push ..
  show _ ∧ _
  rw [z]
  have g1 := Heap.get?_push_size (s.heap.push { cls := .type "tuple_iterator", data := .fields #[.ref l, .int 0 0] })
    (o := { cls := .type "enumerate", data := .fields #[.none, .bool false, .ref s.heap.objs.size, rawInt 0, .none, .none] }) rfl
  rw [z] at g1
  exact ⟨⟨_, g1, rfl⟩, h _ g1 ⟨_, Heap.get?_push_of_some _ (Heap.get?_push_size _ rfl), rfl, rfl⟩ fun b o y => Heap.get?_push_of_some _ (Heap.get?_push_of_some _ y)⟩
/-- the tuple at a, each item in a new pair behind its place -/
def IteT (K : PySem.W.Frag) (a : Addr) : It where
  go := fun i H => ∃ (xs : List V) (x : V), SqT K H a xs ∧ xs[i]? = some x
  yld := fun i H v H' => ∃ t x, v = .ref t ∧ H t = none ∧ H' = upd H t (.tup [.int (i : Nat), x]) ∧ ∀ xs, SqT K H a xs → xs[i]? = some x
  stop := fun i H => ∃ xs : List V, SqT K H a xs ∧ xs.length ≤ i
theorem turnEnumT {P : Program} {w : World} {K : PySem.W.Frag} {elts : List Expr} {kk : Nat} {tpos : Pos} {a e it : Addr} (hai : a ≠ it) (hae : a ≠ e) :
    Turn P w K (.Tuple elts kk tpos) (IteT K a) [e, it] e (fun i h => (∃ old, IsEnum h e it ((i : Nat) : Int) old) ∧ h.IsTupleIter it a i ∧ e ≠ it) := by
  refine ⟨by simp, fun i h st b hb => ?_, fun i h h' st k => ?_, ?_, ?_, fun A i s Q E st h => let ⟨⟨_, he⟩, _⟩ := st; wpAny_pyIter_enum he h⟩
  · obtain ⟨⟨old, he⟩, ⟨o, ho, _, hd⟩, _⟩ := st
    rcases List.mem_cons.mp hb with q | q
    · subst q; exact ⟨_, he, fun v z => nomatch z⟩
    · have q := List.mem_singleton.mp q
      subst q
      exact ⟨o, ho, fun v z => by rw [hd] at z; cases z⟩
  · obtain ⟨⟨old, he⟩, hi, hne⟩ := st
    exact ⟨⟨old, k e (by simp) _ he⟩, hi.at fun o q => k it (by simp) o q, hne⟩
  · intro X hP hw hK hc i pins s σ H E I hf st hg
    subst hP hw hK
    obtain ⟨⟨old, he⟩, hit, hne⟩ := st
    obtain ⟨xs, x, hq, hx⟩ := hg
    obtain ⟨its, rv, p, hz⟩ := I.tuple hq
    obtain ⟨u, hu, ru⟩ := rv.get hx
    have pT : s.heap.IsTuple a its.toArray := p
    have hi : i < its.toArray.size := by
      have := (List.getElem?_eq_some_iff.mp hu).1
      simpa using this
    have sz1 : e < s.heap.objs.size := Heap.lt_size he
    have sz2 : it < s.heap.objs.size := by obtain ⟨_, q, _⟩ := hit; exact Heap.lt_size q
    have D : Draws X.prog X.w X.A.in1 it [it, a] its.toArray.size (fun i v => its.toArray[i]? = some v) (fun i h => h.IsTupleIter it a i ∧ h.IsTuple a its.toArray) := tupDraws (A := X.A.in1) (I.ok.hd hc) it a hai _
    refine wpAny_pyNext_enum_itemD D he ⟨hit, pT⟩ hi hne (by simp [hne, Ne.symm hae]) fun v h' tk hv ho hst hT hsz hk => ?_
    have ev : v = u := by
      have : its.toArray[i]? = some u := by simpa using hu
      rw [this] at hv
      exact (Option.some.inj hv).symm
    subst ev
    refine ⟨_, rfl, wpAny_letOwnedTupleGo_enum (s := { s with heap := h', toks := tk + 1 }) ho fun h'' he' sb => ?_⟩
    have hT2 : h''.get? s.heap.objs.size = some { cls := .type "tuple", data := .seq #[.int i tk, v] } := (sb.2 _ (Nat.ne_of_gt sz1)).trans hT
    have new : ObjOk X.prog X.w (upd H s.heap.objs.size (.tup [.int (i : Nat), x])) h'' s.heap.objs.size (.tup [.int (i : Nat), x]) :=
      ⟨by show 2 ≤ sizeLine; decide, [.int i tk, v], .cons ⟨_, rfl⟩ (.cons ru .nil), ⟨_, hT2, rfl, _, rfl⟩⟩
    have far : ∀ b o, b ∉ [e, it] → s.heap.get? b = some o → h''.get? b = some o := fun b o hb q => by
      have b1 : b ≠ e := fun z => hb (by simp [z])
      have b2 : b ≠ it := fun z => hb (by simp [z])
      exact (sb.2 b b1).trans (hk b o b1 b2 q)
    have J : Inv X pins σ (upd H s.heap.objs.size (.tup [.int (i : Nat), x])) { s with heap := h'', toks := tk + 1 } := I.turnedNew (ch := [e, it]) far hf (Nat.le_refl _) new
    refine ⟨.ref s.heap.objs.size, _, J, rfl, ⟨_, x, rfl, I.hok.fresh (Nat.le_refl _), rfl, fun ys hy => by rw [I.tuple_inj hy hq]; exact hx⟩, ⟨⟨v, ?_⟩, hst.1.at fun o q => (sb.2 it (Ne.symm hne)).trans q, hne⟩, fun b hb => ?_⟩
    · rw [show ((i + 1 : Nat) : Int) = (i : Int) + 1 by omega]; exact he'
    · have lt : b < s.heap.objs.size := by
        rcases List.mem_cons.mp hb with q | q
        · rw [q]; exact sz1
        · rw [List.mem_singleton.mp q]; exact sz2
      rw [upd_ne (Nat.ne_of_lt lt)]
      exact (hf b hb).1
  · intro X hP hw hK hc i pins s σ H E I hf st hg
    subst hP hw hK
    obtain ⟨⟨old, he⟩, hit, hne⟩ := st
    obtain ⟨xs, hq, hx⟩ := hg
    obtain ⟨its, rv, p, hz⟩ := I.tuple hq
    obtain ⟨f0, f1, f2, f3, f4, f5⟩ := hf it (by simp)
    have hl := rv.length
    have pT : s.heap.IsTuple a its.toArray := p
    have hT : s.TypeIs (.ref e) "enumerate" := ⟨_, he, rfl⟩
    unfold pyNext
    refine wpAny_bind (wpAny_attempt (wpAny_callSpecial?_slot (name := Str.ofString "__next__") hT F.slot_enumerate_next
      (wpAny_call_entry F.slot_enumerate_next hT F.entry_enumerate_next ?_ (F.args_enumerate_next_1 _))))
    show wpAny _ _ (field (.ref e) 2 >>= _) _ _ _
    refine wpAny_bind (wpAny_field he rfl (x := .ref it) rfl ?_)
    refine wpAny_bind (RZ.nextOf_tuple_end (I.ok.hd hc) hit pT (by simp; omega) fun h' x he' hx' => ?_)
    obtain ⟨o, ho, hcx⟩ := hx'
    refine wpAny_bind (wpAny_isInstance (T := "StopIteration") (b := true) ⟨o, ho, hcx⟩ isSubtype_stop ?_)
    exact wpAny_pure ⟨rfl, I.turned (t' := s.toks) (fun b o hb q => he' b o hb q) f0 f1 f3 f4 f5⟩
/-- enumerate of a list or a tuple -/
def iEnumM (K : PySem.W.Frag) (ta : TA) : TI := fun σ H R => ta σ H fun vs H1 => ∃ a xs, vs = [.ref a] ∧ ((SqL K H1 a xs ∧ R (Ite K a) H1) ∨ (SqT K H1 a xs ∧ R (IteT K a) H1))
theorem pi_enumM {X : Cx} {e : Expr} {ta : TA} {p pos tpos : Pos} {elts : List Expr} {kk : Nat} (hg : Gl X "enumerate") (hm : X.mg "enumerate" = none) (ha : PA X [e] ta) (hs : starEach [e] X.env = [(false, eval e X.env)] := by rfl) :
    PI X (.Tuple elts kk tpos) (.Call (.Name "enumerate" p) [e] [] pos) (iEnumM X.K ta) := by
  refine ⟨fun pins s σ H R I h => ?_⟩
  refine Call_ (ld_blt I hg hm PyProof.Rows.boot_enumerate (PyProof.Rows.callWith_type1 (thn (ha.run pos pins s σ H _ I h) fun us s1 ⟨vs, H1, I1, r1, q1⟩ => ?_) hs rfl))
  obtain ⟨a, xs, rfl, q⟩ := q1
  cases r1 with
  | cons r rr =>
    cases rr
    cases r
    have fp : ∀ b ∈ [s1.heap.objs.size + 1, s1.heap.objs.size], FpOk X pins H1 b := fun b hb => by
      have le : s1.heap.objs.size ≤ b := by
        rcases List.mem_cons.mp hb with z | z
        · rw [z]; exact Nat.le_succ _
        · rw [List.mem_singleton.mp z]; exact Nat.le_refl _
      exact I1.fpOk le (I1.hok.fresh le)
    rcases q with ⟨hq, q⟩ | ⟨hq, q⟩
    · obtain ⟨its, rv, pl, hz⟩ := I1.list hq
      refine call_enumerate_list pl.isList fun h' he hit hsz hk => wpAny_pyIter_enum he ?_
      exact ⟨s1.heap.objs.size + 1, [s1.heap.objs.size + 1, s1.heap.objs.size], _, _, H1, rfl, I1.kept (t' := s1.toks) hk, turn_enum a (s1.heap.objs.size + 1) s1.heap.objs.size, ⟨⟨.none, he⟩, hit, Nat.succ_ne_self _⟩, fp, q⟩
    · obtain ⟨its, rv, pt, hz⟩ := I1.tuple hq
      have lt : a < s1.heap.objs.size := by obtain ⟨_, z, _⟩ := id pt; exact Heap.lt_size z
      refine enumCallT (show s1.heap.IsTuple a its.toArray from pt) fun h' he hit hk => wpAny_pyIter_enum he ?_
      exact ⟨s1.heap.objs.size + 1, [s1.heap.objs.size + 1, s1.heap.objs.size], _, _, H1, rfl, I1.kept (t' := s1.toks) hk, turnEnumT (Nat.ne_of_lt lt) (Nat.ne_of_lt (Nat.lt_succ_of_lt lt)), ⟨⟨.none, he⟩, hit, Nat.succ_ne_self _⟩, fp, q⟩
theorem walk_enumT {K : PySem.W.Frag} {a : Addr} {xs : List V} : Walk (IteT K a) xs.length (fun H => SqT K H a xs) (YPair (fun i => some (.int (i : Nat))) (fun i => xs[i]?)) := by
  refine ⟨fun i _ hi q => ⟨xs, xs[i], q, by simp [hi]⟩, fun _ q => ⟨xs, q, Nat.le_refl _⟩, fun i H v H' _ q y => ?_⟩
  obtain ⟨t, x, h1, h2, h3, h4⟩ := y
  exact ⟨t, .int (i : Nat), x, h1, h2, h3, rfl, h4 xs q⟩

/-! ### zip of a tuple and a list -/
/-- where the records of such a zip lie: the zip z, its pair TI of the iterators i1, i2, its own pair TO; t the tuple, l the list -/
structure Zap (z TI TO i1 i2 t l : Addr) : Prop where
  h1 : TI ≠ z ∧ TO ≠ z ∧ i1 ≠ z ∧ i2 ≠ z
  h2 : TI ≠ TO ∧ TI ≠ i1 ∧ TI ≠ i2 ∧ TO ≠ i1 ∧ TO ≠ i2 ∧ i1 ≠ i2
  h3 : t ≠ z ∧ t ≠ TO ∧ t ≠ i1 ∧ t ≠ i2
  h4 : l ≠ z ∧ l ≠ TO ∧ l ≠ i1 ∧ l ≠ i2
/-- how the records stand -/
structure ZSt (h : Heap) (z TI TO i1 i2 t l : Addr) (f0 : Value) (k : Nat) : Prop where
  hz : IsZip h z TI TO f0
  hi : IsPair h TI (.ref i1) (.ref i2)
  ho : ∃ a b, IsPair h TO a b
  it : h.IsTupleIter i1 t k
  il : h.IsListIter i2 l k
section
variable {prog : Program} {w : World} {A : Around} {E : Value → Shared → Prop} {s : Shared} {z TI TO i1 i2 t l : Addr} {k : Nat} {xs ys : Array Value} {x y : Value}
theorem zipTL_item {Q : Value → Shared → Prop} (D : Zap z TI TO i1 i2 t l) (S : ZSt s.heap z TI TO i1 i2 t l .none k) (ht : s.heap.IsTuple t xs) (hl : s.heap.IsList l ys) (hx : xs[k]? = some x) (hy : ys[k]? = some y)
    (hQ : ∀ h', ZSt h' z TI TO i1 i2 t l (rawInt s.heap.objs.size) (k + 1) → IsPair h' s.heap.objs.size x y →
      (∀ c o, c ≠ z → c ≠ TO → c ≠ i1 → c ≠ i2 → s.heap.get? c = some o → h'.get? c = some o) → Q (.ref s.heap.objs.size) { s with heap := h' }) :
    wpAny (model prog w) A (Builtin.«zip.__next__» ⟨[.ref z], []⟩) (fun fin s' => ∃ v, fin = .done (.ret v) ∧ Q v s') E s := by
  obtain ⟨hz, hi, ⟨a, b, ho⟩, h1, h2⟩ := S
  obtain ⟨⟨a1, a2, a3, a4⟩, ⟨b1, b2, b3, b4, b5, b6⟩, ⟨c1, c2, c3, c4⟩, ⟨d1, d2, d3, d4⟩⟩ := D
  show wpAny _ _ (field (.ref z) 2 >>= _) _ _ _
  refine wpAny_bind (wpAny_field hz rfl (x := .bool false) rfl ?_)
  show wpAny _ _ (field (.ref z) 3 >>= _) _ _ _
  refine wpAny_bind (wpAny_field hz rfl (x := .ref TI) rfl (wpAny_bind (wpAny_seqItems hi rfl ?_)))
  show wpAny _ _ (Builtin.SmallTypes.ownedTupleIsFree (.ref z) >>= _) _ _ _
  refine wpAny_bind ?_
  unfold Builtin.SmallTypes.ownedTupleIsFree
  refine wpAny_bind (wpAny_field hz rfl (x := .none) rfl (wpAny_pure ?_))
  simp only [if_true]
  refine wpAny_bind (wpAny_rule (wpAny_bind (wpAny_field hz rfl (x := .ref TO) rfl ?_)))
  -- taken out
  refine wpAny_bind (wpAny_setField_rec hz (by simp) fun g1 gz1 e1 => ?_)
  replace gz1 : IsZip g1 z TI TO .ellipsis := gz1
  refine wpAny_bind ?_
  simp only [List.zipIdx_cons, List.zipIdx_nil, List.forIn_cons, List.forIn_nil]
  -- the tuple's item
  refine wpAny_bind (wpAny_bind (wpAny_onRaise ?_))
  show wpAny _ _ (Builtin.SmallTypes.nextOf (.ref i1) >>= _) _ _ _
  refine wpAny_bind (RZ.nextOf_tuple_item (h1.extBut e1.extBut a3) (ht.extBut e1.extBut c1) hx fun g2 n1 e2 => wpAny_pure ?_)
  have o2 : IsPair g2 TO a b := e2.extBut _ _ b4 (e1.extBut _ _ a2 ho)
  refine wpAny_bind (wpAny_seqItems o2 rfl (wpAny_bind (wpAny_updateSeq_pair o2 fun g3 o3 e3 => ?_)))
  replace o3 : IsPair g3 TO x b := o3
  refine wpAny_bind (wpAny_letGo (wpAny_pure ?_))
  -- the list's item
  refine wpAny_bind (wpAny_bind (wpAny_onRaise ?_))
  show wpAny _ _ (Builtin.SmallTypes.nextOf (.ref i2) >>= _) _ _ _
  have m2 : g3.IsListIter i2 l k := ((h2.extBut e1.extBut a4).extBut e2.extBut b6.symm).extBut e3.extBut b5.symm
  have ml : g3.IsList l ys := ((hl.extBut e1.extBut d1).extBut e2.extBut d3).extBut e3.extBut d2
  refine wpAny_bind (wpAny_nextOf_list_item m2 ml hy fun g4 n2 e4 => wpAny_pure ?_)
  have o4 : IsPair g4 TO x b := e4.extBut _ _ b5 o3
  refine wpAny_bind (wpAny_seqItems o4 rfl (wpAny_bind (wpAny_updateSeq_pair o4 fun g5 o5 e5 => ?_)))
  replace o5 : IsPair g5 TO x y := o5
  refine wpAny_bind (wpAny_letGo (wpAny_pure (wpAny_pure ?_)))
  -- a new pair is handed out
  refine wpAny_bind (wpAny_seqItems o5 rfl (wpAny_bind (wpAny_newTuple ?_)))
  have size5 : g5.objs.size = s.heap.objs.size := by rw [e5.1, e4.1, e3.1, e2.1, e1.1]
  have keep5 : ∀ c o, c ≠ z → c ≠ TO → c ≠ i1 → c ≠ i2 → s.heap.get? c = some o → g5.get? c = some o := fun c o q1 q2 q3 q4 q =>
    e5.extBut _ _ q2 (e4.extBut _ _ q4 (e3.extBut _ _ q2 (e2.extBut _ _ q3 (e1.extBut _ _ q1 q))))
  have z5 : IsZip g5 z TI TO .ellipsis := e5.extBut _ _ a2.symm (e4.extBut _ _ a4.symm (e3.extBut _ _ a2.symm (e2.extBut _ _ a3.symm gz1)))
  have t5 : g5.IsTupleIter i1 t (k + 1) := ((n1.extBut e3.extBut b4.symm).extBut e4.extBut b6).extBut e5.extBut b4.symm
  have l5 : g5.IsListIter i2 l (k + 1) := n2.extBut e5.extBut b5.symm
  have zlt : z < g5.objs.size := Heap.lt_size z5
  show wpAny _ _ (Builtin.SmallTypes.ownedTupleHandOut (.ref z) (.ref g5.objs.size) >>= _) _ _ _
  refine wpAny_bind ?_
  unfold Builtin.SmallTypes.ownedTupleHandOut
  have z6 : IsZip (g5.push { cls := .type "tuple", data := .seq #[x, y] }) z TI TO .ellipsis := Heap.get?_push_of_some _ z5
  refine wpAny_bind (wpAny_setField_rec z6 (by simp) fun g7 z7 e7 => ?_)
  replace z7 : IsZip g7 z TI TO (rawInt g5.objs.size) := z7
  refine wpAny_setField_rec z7 (by simp) fun g8 z8 e8 => ?_
  replace z8 : IsZip g8 z TI TO (rawInt g5.objs.size) := z8
  have up : ∀ c o, c ≠ z → g5.get? c = some o → g8.get? c = some o := fun c o q1 q => e8.extBut _ _ q1 (e7.extBut _ _ q1 (Heap.get?_push_of_some _ q))
  have p8 : IsPair g8 g5.objs.size x y := e8.extBut _ _ (Nat.ne_of_gt zlt) (e7.extBut _ _ (Nat.ne_of_gt zlt) (Heap.get?_push_size _ rfl))
  rw [size5] at z8 p8
  refine wpAny_pure ⟨_, rfl, ?_⟩
  show Q (.ref g5.objs.size) _
  rw [size5]
  refine hQ g8 ⟨z8, up _ _ a1 (keep5 _ _ a1 b1 b2 b3 hi), ⟨_, _, up _ _ a2 o5⟩, t5.at fun o q => up _ o a3 q, l5.at fun o q => up _ o a4 q⟩ p8 fun c o q1 q2 q3 q4 q => up c o q1 (keep5 c o q1 q2 q3 q4 q)
theorem zipTL_end {Q : Fin → Shared → Prop} (hh : A.handled = none) (D : Zap z TI TO i1 i2 t l) (S : ZSt s.heap z TI TO i1 i2 t l .none k) (ht : s.heap.IsTuple t xs) (hl : s.heap.IsList l ys) (hend : xs[k]? = none ∨ ys[k]? = none)
    (hE : ∀ h' e, (∀ c o, c ≠ z → c ≠ TO → c ≠ i1 → c ≠ i2 → s.heap.get? c = some o → h'.get? c = some o) → (∃ o, h'.get? e = some o ∧ o.cls = .type "StopIteration") → E (.ref e) { s with heap := h' }) :
    wpAny (model prog w) A (Builtin.«zip.__next__» ⟨[.ref z], []⟩) Q E s := by
  obtain ⟨hz, hi, ⟨a, b, ho⟩, h1, h2⟩ := S
  obtain ⟨⟨a1, a2, a3, a4⟩, ⟨b1, b2, b3, b4, b5, b6⟩, ⟨c1, c2, c3, c4⟩, ⟨d1, d2, d3, d4⟩⟩ := D
  show wpAny _ _ (field (.ref z) 2 >>= _) _ _ _
  refine wpAny_bind (wpAny_field hz rfl (x := .bool false) rfl ?_)
  show wpAny _ _ (field (.ref z) 3 >>= _) _ _ _
  refine wpAny_bind (wpAny_field hz rfl (x := .ref TI) rfl (wpAny_bind (wpAny_seqItems hi rfl ?_)))
  show wpAny _ _ (Builtin.SmallTypes.ownedTupleIsFree (.ref z) >>= _) _ _ _
  refine wpAny_bind ?_
  unfold Builtin.SmallTypes.ownedTupleIsFree
  refine wpAny_bind (wpAny_field hz rfl (x := .none) rfl (wpAny_pure ?_))
  simp only [if_true]
  refine wpAny_bind (wpAny_rule (wpAny_bind (wpAny_field hz rfl (x := .ref TO) rfl ?_)))
  refine wpAny_bind (wpAny_setField_rec hz (by simp) fun g1 gz1 e1 => ?_)
  replace gz1 : IsZip g1 z TI TO .ellipsis := gz1
  refine wpAny_bind ?_
  simp only [List.zipIdx_cons, List.zipIdx_nil, List.forIn_cons, List.forIn_nil]
  refine wpAny_bind (wpAny_bind (wpAny_onRaise ?_))
  show wpAny _ _ (Builtin.SmallTypes.nextOf (.ref i1) >>= _) _ _ _
  cases hx : xs[k]? with
  | none =>
    refine wpAny_bind (RZ.nextOf_tuple_end hh (h1.extBut e1.extBut a3) (ht.extBut e1.extBut c1) hx fun g2 e e2 he => ?_)
    obtain ⟨oe, hoe, hce⟩ := he
    have gz2 : IsZip g2 z TI TO .ellipsis := e2 _ _ a3.symm gz1
    have nz : e ≠ z := fun q => by subst q; rw [gz2] at hoe; cases hoe; simp at hce
    exact wpAny_setField_rec gz2 (by simp) fun g3 _ e3 => hE g3 e (fun c o q1 _ q3 _ q => e3.extBut _ _ q1 (e2 _ _ q3 (e1.extBut _ _ q1 q))) ⟨oe, e3.extBut _ _ nz hoe, hce⟩
  | some x =>
    have hy : ys[k]? = none := hend.elim (fun q => by rw [hx] at q; cases q) id
    refine wpAny_bind (RZ.nextOf_tuple_item (h1.extBut e1.extBut a3) (ht.extBut e1.extBut c1) hx fun g2 n1 e2 => wpAny_pure ?_)
    have o2 : IsPair g2 TO a b := e2.extBut _ _ b4 (e1.extBut _ _ a2 ho)
    refine wpAny_bind (wpAny_seqItems o2 rfl (wpAny_bind (wpAny_updateSeq_pair o2 fun g3 o3 e3 => ?_)))
    refine wpAny_bind (wpAny_letGo (wpAny_pure ?_))
    refine wpAny_bind (wpAny_bind (wpAny_onRaise ?_))
    show wpAny _ _ (Builtin.SmallTypes.nextOf (.ref i2) >>= _) _ _ _
    have m2 : g3.IsListIter i2 l k := ((h2.extBut e1.extBut a4).extBut e2.extBut b6.symm).extBut e3.extBut b5.symm
    have ml : g3.IsList l ys := ((hl.extBut e1.extBut d1).extBut e2.extBut d3).extBut e3.extBut d2
    refine wpAny_bind (wpAny_nextOf_list_end hh m2 ml hy fun g4 e e4 he => ?_)
    obtain ⟨oe, hoe, hce⟩ := he
    have gz4 : IsZip g4 z TI TO .ellipsis := e4 _ _ a4.symm (e3.extBut _ _ a2.symm (e2.extBut _ _ a3.symm gz1))
    have nz : e ≠ z := fun q => by subst q; rw [gz4] at hoe; cases hoe; simp at hce
    exact wpAny_setField_rec gz4 (by simp) fun g5 _ e5 => hE g5 e (fun c o q1 q2 q3 q4 q => e5.extBut _ _ q1 (e4 _ _ q4 (e3.extBut _ _ q2 (e2.extBut _ _ q3 (e1.extBut _ _ q1 q))))) ⟨oe, e5.extBut _ _ nz hoe, hce⟩
/-- the heap behind the making, record by record -/
abbrev zg1 (h : Heap) (t : Addr) : Heap := h.push { cls := .type "tuple_iterator", data := .fields #[.ref t, .int 0 0] }
abbrev zg2 (h : Heap) (t l : Addr) : Heap := (zg1 h t).push { cls := .type "list_iterator", data := .fields #[.ref l, .int 0 0] }
abbrev zg3 (h : Heap) (t l : Addr) : Heap := (zg2 h t l).push { cls := .type "tuple", data := .seq #[.ref h.objs.size, .ref (zg1 h t).objs.size] }
abbrev zg4 (h : Heap) (t l : Addr) : Heap := (zg3 h t l).push { cls := .type "tuple", data := .seq #[.none, .none] }
abbrev zg5 (h : Heap) (t l : Addr) : Heap := (zg4 h t l).push { cls := .type "zip", data := .fields #[.none, .bool false, .bool false, .ref (zg2 h t l).objs.size, .ref (zg3 h t l).objs.size] }
theorem zipTL_new (t l : Addr) (xs ys : Array Value) :
    Meets (Builtin.«zip.__new__» ⟨[.type "zip", .ref t, .ref l], []⟩) (fun _ R s => s.heap.IsTuple t xs ∧ s.heap.IsList l ys ∧ R (.ok (.ret (.ref (zg4 s.heap t l).objs.size))) { s with heap := zg5 s.heap t l }) :=
  .of_wp fun prog w A R s hs => by
    obtain ⟨hp, g, d, tk, os⟩ := s
    obtain ⟨ht, hl, hR⟩ := hs
    have sub := sub_zip
    have hT : Heap.IsTuple (Shared.heap ⟨hp, g, d, tk, os⟩) t xs := ht
    have hL : Heap.IsList (Shared.heap ⟨hp.push { cls := .type "tuple_iterator", data := .fields #[.ref t, .int 0 0] }, g, d, tk, os⟩) l ys := Heap.IsList.push hl _
    wp_walk using wpAny_pyIter_tuple hT, wpAny_pyIter_list hL
    exact ⟨_, rfl, hR⟩
theorem zipTL_call {Q : Value → Shared → Prop} (ht : s.heap.IsTuple t xs) (hl : s.heap.IsList l ys)
    (h : ∀ h', ZSt h' (s.heap.objs.size + 4) (s.heap.objs.size + 2) (s.heap.objs.size + 3) s.heap.objs.size (s.heap.objs.size + 1) t l .none 0 → (∀ c o, s.heap.get? c = some o → h'.get? c = some o) → Q (.ref (s.heap.objs.size + 4)) { s with heap := h' }) :
    wpAny (model prog w) A (call (.type "zip") [.ref t, .ref l]) Q E s := by
  refine callType_new F.called_zip (by decide) (F.typeCall_zip_2 _ _) (F.newCall_zip_2 _ _) (fun obj => F.args_object_init_3 obj _ _) F.entry_zip_new
    (zipTL_new t l xs ys) ⟨ht, hl, ?_⟩
  have n1 : (zg1 s.heap t).objs.size = s.heap.objs.size + 1 := Heap.size_push ..
  have n2 : (zg2 s.heap t l).objs.size = s.heap.objs.size + 2 := by rw [Heap.size_push, n1]
  have n3 : (zg3 s.heap t l).objs.size = s.heap.objs.size + 3 := by rw [Heap.size_push, n2]
  have n4 : (zg4 s.heap t l).objs.size = s.heap.objs.size + 4 := by rw [Heap.size_push, n3]
  have q5 : (zg5 s.heap t l).get? (zg4 s.heap t l).objs.size = some _ := Heap.get?_push_size _ rfl
  have q4 : (zg5 s.heap t l).get? (zg3 s.heap t l).objs.size = some _ := Heap.get?_push_of_some _ (Heap.get?_push_size _ rfl)
  have q3 : (zg5 s.heap t l).get? (zg2 s.heap t l).objs.size = some _ := Heap.get?_push_of_some _ (Heap.get?_push_of_some _ (Heap.get?_push_size _ rfl))
  have q2 : (zg5 s.heap t l).get? (zg1 s.heap t).objs.size = some _ := Heap.get?_push_of_some _ (Heap.get?_push_of_some _ (Heap.get?_push_of_some _ (Heap.get?_push_size _ rfl)))
  have q1 : (zg5 s.heap t l).get? s.heap.objs.size = some _ := Heap.get?_push_of_some _ (Heap.get?_push_of_some _ (Heap.get?_push_of_some _ (Heap.get?_push_of_some _ (Heap.get?_push_size _ rfl))))
  show _ ∧ _
  rw [n2, n3, n4] at q5
  rw [n1, n2] at q3
  rw [n3] at q4
  rw [n1] at q2
  rw [n4]
  exact ⟨⟨_, q5, rfl⟩, h _ ⟨q5, q3, ⟨_, _, q4⟩, ⟨_, q1, rfl, rfl⟩, ⟨_, q2, rfl, rfl⟩⟩ fun c o q =>
    Heap.get?_push_of_some _ (Heap.get?_push_of_some _ (Heap.get?_push_of_some _ (Heap.get?_push_of_some _ (Heap.get?_push_of_some _ q))))⟩
end
/-- the tuple at a and the list at b, their items in new pairs -/
def ItzM (K : PySem.W.Frag) (a b : Addr) : It where
  go := fun i H => ∃ (xs ys : List V) (x y : V), SqT K H a xs ∧ SqL K H b ys ∧ xs[i]? = some x ∧ ys[i]? = some y
  yld := fun i H v H' => ∃ n x y, v = .ref n ∧ H n = none ∧ H' = upd H n (.tup [x, y]) ∧ (∀ xs, SqT K H a xs → xs[i]? = some x) ∧ ∀ ys, SqL K H b ys → ys[i]? = some y
  stop := fun i H => ∃ xs ys : List V, SqT K H a xs ∧ SqL K H b ys ∧ (xs.length ≤ i ∨ ys.length ≤ i)
theorem turnZipM {P : Program} {w : World} {K : PySem.W.Frag} {elts : List Expr} {kk : Nat} {tpos : Pos} {a b z TI TO i1 i2 : Addr} (D : Zap z TI TO i1 i2 a b) :
    Turn P w K (.Tuple elts kk tpos) (ItzM K a b) [z, TI, TO, i1, i2] z (fun i h => ZSt h z TI TO i1 i2 a b .none i) := by
  have five : ∀ {c : Addr}, c ∈ [z, TI, TO, i1, i2] → c = z ∨ c = TI ∨ c = TO ∨ c = i1 ∨ c = i2 := fun h => by simpa using h
  refine ⟨by simp, fun i h st c hc => ?_, fun i h h' st k => ?_, ?_, ?_, fun A i s Q E st h => wpAny_pyIter_zip st.hz h⟩
  · obtain ⟨hz, hi, ⟨x, y, ho⟩, ⟨o1, f1, _, d1⟩, ⟨o2, f2, _, d2⟩⟩ := st
    rcases five hc with q | q | q | q | q <;> subst q
    · exact ⟨_, hz, fun v q => nomatch q⟩
    · exact ⟨_, hi, fun v q => nomatch q⟩
    · exact ⟨_, ho, fun v q => nomatch q⟩
    · exact ⟨o1, f1, fun v q => by rw [d1] at q; cases q⟩
    · exact ⟨o2, f2, fun v q => by rw [d2] at q; cases q⟩
  · obtain ⟨hz, hi, ⟨x, y, ho⟩, h1, h2⟩ := st
    exact ⟨k z (by simp) _ hz, k TI (by simp) _ hi, ⟨x, y, k TO (by simp) _ ho⟩, h1.at fun o q => k i1 (by simp) o q, h2.at fun o q => k i2 (by simp) o q⟩
  · intro X hP hw hK hc i pins s σ H E I hf st hg
    subst hP hw hK
    obtain ⟨xs, ys, x, y, hqx, hqy, hx, hy⟩ := hg
    obtain ⟨its, rv, p, _⟩ := I.tuple hqx
    obtain ⟨its2, rv2, p2, _⟩ := I.list hqy
    obtain ⟨u, hu, ru⟩ := rv.get hx
    obtain ⟨u2, hu2, ru2⟩ := rv2.get hy
    have zl : z < s.heap.objs.size := Heap.lt_size st.hz
    have hT : s.TypeIs (.ref z) "zip" := ⟨_, st.hz, rfl⟩
    unfold pyNext
    refine wpAny_bind (wpAny_attempt (wpAny_callSpecial?_slot (name := Str.ofString "__next__") hT F.slot_zip_next
      (wpAny_call_entry F.slot_zip_next hT F.entry_zip_next
        (zipTL_item D st (show s.heap.IsTuple a its.toArray from p) p2.isList (x := u) (y := u2) (by simpa using hu) (by simpa using hu2) fun h' st' pr k => ?_) (F.args_zip_next_1 _))))
    refine wpAny_pure ⟨_, rfl, wpAny_letOwnedTupleGo_zip (s := { s with heap := h' }) st'.hz fun h'' z'' sb => ?_⟩
    have pr2 : h''.get? s.heap.objs.size = some { cls := .type "tuple", data := .seq #[u, u2] } := (sb.2 _ (Nat.ne_of_gt zl)).trans pr
    have new : ObjOk X.prog X.w (upd H s.heap.objs.size (.tup [x, y])) h'' s.heap.objs.size (.tup [x, y]) :=
      ⟨by show 2 ≤ sizeLine; decide, [u, u2], .cons ru (.cons ru2 .nil), ⟨_, pr2, rfl, _, rfl⟩⟩
    have far : ∀ c o, c ∉ [z, TI, TO, i1, i2] → s.heap.get? c = some o → h''.get? c = some o := fun c o hb q => by
      have m : ∀ d, d ∈ [z, TI, TO, i1, i2] → c ≠ d := fun d hd e => hb (e ▸ hd)
      exact (sb.2 c (m z (by simp))).trans (k c o (m z (by simp)) (m TO (by simp)) (m i1 (by simp)) (m i2 (by simp)) q)
    have J : Inv X pins σ (upd H s.heap.objs.size (.tup [x, y])) { s with heap := h'' } := I.turnedNew (t' := s.toks) (ch := [z, TI, TO, i1, i2]) far hf (Nat.le_refl _) new
    obtain ⟨⟨a1, a2, a3, a4⟩, _⟩ := id D
    refine ⟨.ref s.heap.objs.size, _, J, rfl, ⟨_, x, y, rfl, I.hok.fresh (Nat.le_refl _), rfl, fun l hl => by rw [I.tuple_inj hl hqx]; exact hx, fun l hl => by rw [I.list_inj hl hqy]; exact hy⟩, ⟨z'', ?_, ?_, ?_, ?_⟩, fun c hcm => ?_⟩
    · exact (sb.2 _ a1).trans st'.hi
    · obtain ⟨q1, q2, q3⟩ := st'.ho
      exact ⟨q1, q2, (sb.2 _ a2).trans q3⟩
    · exact st'.it.at fun o q => (sb.2 _ a3).trans q
    · exact st'.il.at fun o q => (sb.2 _ a4).trans q
    · have lt : c < s.heap.objs.size := by
        obtain ⟨hz, hi, ⟨_, _, ho⟩, ⟨_, f1, _⟩, ⟨_, f2, _⟩⟩ := st
        rcases five hcm with q | q | q | q | q <;> subst q
        · exact zl
        · exact Heap.lt_size hi
        · exact Heap.lt_size ho
        · exact Heap.lt_size f1
        · exact Heap.lt_size f2
      rw [upd_ne (Nat.ne_of_lt lt)]
      exact (hf c hcm).1
  · intro X hP hw hK hc i pins s σ H E I hf st hg
    subst hP hw hK
    obtain ⟨xs, ys, hqx, hqy, hend⟩ := hg
    obtain ⟨its, rv, p, _⟩ := I.tuple hqx
    obtain ⟨its2, rv2, p2, _⟩ := I.list hqy
    have l1 := rv.length
    have l2 := rv2.length
    have he : its.toArray[i]? = none ∨ its2.toArray[i]? = none := hend.elim (fun q => .inl (by simp; omega)) fun q => .inr (by simp; omega)
    have hT : s.TypeIs (.ref z) "zip" := ⟨_, st.hz, rfl⟩
    unfold pyNext
    refine wpAny_bind (wpAny_attempt (wpAny_callSpecial?_slot (name := Str.ofString "__next__") hT F.slot_zip_next
      (wpAny_call_entry F.slot_zip_next hT F.entry_zip_next (zipTL_end (I.ok.hd hc) D st (show s.heap.IsTuple a its.toArray from p) p2.isList he fun h' e k hs => ?_) (F.args_zip_next_1 _))))
    obtain ⟨o, ho, hco⟩ := hs
    refine wpAny_bind (wpAny_isInstance (T := "StopIteration") (b := true) ⟨o, ho, hco⟩ isSubtype_stop ?_)
    refine wpAny_pure ⟨rfl, I.turnedL (t' := s.toks) (ch := [z, TI, TO, i1, i2]) (fun c o hb q => ?_) hf⟩
    have m : ∀ d, d ∈ [z, TI, TO, i1, i2] → c ≠ d := fun d hd e => hb (e ▸ hd)
    exact k c o (m z (by simp)) (m TO (by simp)) (m i1 (by simp)) (m i2 (by simp)) q
theorem zap_of {n a b : Nat} (la : a < n) (lb : b < n) : Zap (n + 4) (n + 2) (n + 3) n (n + 1) a b := by
  have f : ∀ x y : Nat, (x = y → False) → x ≠ y := fun _ _ h => h
  refine ⟨⟨f _ _ ?_, f _ _ ?_, f _ _ ?_, f _ _ ?_⟩, ⟨f _ _ ?_, f _ _ ?_, f _ _ ?_, f _ _ ?_, f _ _ ?_, f _ _ ?_⟩, ⟨f _ _ ?_, f _ _ ?_, f _ _ ?_, f _ _ ?_⟩, ⟨f _ _ ?_, f _ _ ?_, f _ _ ?_, f _ _ ?_⟩⟩ <;> (intro h; omega)
/-- zip of a tuple with a tuple or a list -/
def iZipM (K : PySem.W.Frag) (ta : TA) : TI := fun σ H R => ta σ H fun vs H1 => ∃ a b xs ys, vs = [.ref a, .ref b] ∧ ((SqT K H1 a xs ∧ SqT K H1 b ys ∧ R (RZ.ItzT K a b) H1) ∨ (SqT K H1 a xs ∧ SqL K H1 b ys ∧ R (ItzM K a b) H1))
theorem pi_zipM {X : Cx} {e e2 : Expr} {ta : TA} {p pos tpos : Pos} {elts : List Expr} {kk : Nat} (hg : Gl X "zip") (hm : X.mg "zip" = none) (ha : PA X [e, e2] ta)
    (hs : starEach [e, e2] X.env = (false, eval e X.env) :: starEach [e2] X.env := by rfl) (hpl : (backTo pos (starEach [e2] X.env)).any (·.1) = false := by rfl) :
    PI X (.Tuple elts kk tpos) (.Call (.Name "zip" p) [e, e2] [] pos) (iZipM X.K ta) := by
  refine ⟨fun pins s σ H R I h => ?_⟩
  refine Call_ (ld_blt I hg hm PyProof.Rows.boot_zip (PyProof.Rows.callWith_type1 (thn (ha.run pos pins s σ H _ I h) fun us s1 ⟨vs, H1, I1, r1, q1⟩ => ?_) hs hpl))
  obtain ⟨a, b, xs, ys, rfl, q1⟩ := q1
  cases r1 with
  | cons r rr =>
    cases rr with
    | cons r' rr =>
      cases rr
      cases r
      cases r'
      have fp : ∀ c, c ∈ [s1.heap.objs.size + 4, s1.heap.objs.size + 2, s1.heap.objs.size + 3, s1.heap.objs.size, s1.heap.objs.size + 1] → FpOk X pins H1 c := fun c hcm => by
        have le : s1.heap.objs.size ≤ c := by
          have q : c = s1.heap.objs.size + 4 ∨ c = s1.heap.objs.size + 2 ∨ c = s1.heap.objs.size + 3 ∨ c = s1.heap.objs.size ∨ c = s1.heap.objs.size + 1 := by simpa using hcm
          omega
        exact I1.fpOk le (I1.hok.fresh le)
      rcases q1 with ⟨hqx, hqy, q⟩ | ⟨hqx, hqy, q⟩
      · obtain ⟨its, rv, p1, _⟩ := I1.tuple hqx
        obtain ⟨its2, rv2, p2, _⟩ := I1.tuple hqy
        obtain ⟨o1, ho1, _⟩ := id p1
        obtain ⟨o2, ho2, _⟩ := id p2
        refine RZ.call_zipT (show s1.heap.IsTuple a its.toArray from p1) (show s1.heap.IsTuple b its2.toArray from p2) fun h' hz hTI hTO h1 h2 hsz hk => wpAny_pyIter_zip hz ?_
        exact ⟨s1.heap.objs.size + 4, [s1.heap.objs.size + 4, s1.heap.objs.size + 2, s1.heap.objs.size + 3, s1.heap.objs.size, s1.heap.objs.size + 1], _, _, H1, rfl, I1.kept (t' := s1.toks) hk,
          RZ.turn_zipT (PySem.W.ktu_apart s1.heap.objs.size a b (Heap.lt_size ho1) (Heap.lt_size ho2)), ⟨hz, hTI, ⟨_, _, hTO⟩, h1, h2⟩, fp, q⟩
      · obtain ⟨its, rv, p1, _⟩ := I1.tuple hqx
        obtain ⟨its2, rv2, p2, _⟩ := I1.list hqy
        have la : a < s1.heap.objs.size := by obtain ⟨_, e, _⟩ := id p1; exact Heap.lt_size e
        have lb : b < s1.heap.objs.size := p2.lt
        have D : Zap (s1.heap.objs.size + 4) (s1.heap.objs.size + 2) (s1.heap.objs.size + 3) s1.heap.objs.size (s1.heap.objs.size + 1) a b := by
          exact zap_of la lb
        refine zipTL_call (show s1.heap.IsTuple a its.toArray from p1) p2.isList fun h' st k => wpAny_pyIter_zip st.hz ?_
        exact ⟨s1.heap.objs.size + 4, [s1.heap.objs.size + 4, s1.heap.objs.size + 2, s1.heap.objs.size + 3, s1.heap.objs.size, s1.heap.objs.size + 1], _, _, H1, rfl, I1.kept (t' := s1.toks) k, turnZipM D, st, fp, q⟩
theorem walk_zipM {K : PySem.W.Frag} {a b : Addr} {xs ys : List V} {n : Nat} (hn : n = min xs.length ys.length) : Walk (ItzM K a b) n (fun H => SqT K H a xs ∧ SqL K H b ys) (YPair (fun i => xs[i]?) (fun i => ys[i]?)) := by
  subst hn
  refine ⟨fun i _ hi q => ?_, fun _ q => ⟨xs, ys, q.1, q.2, by omega⟩, fun i H v H' _ q y => ?_⟩
  · have h1 : i < xs.length := by omega
    have h2 : i < ys.length := by omega
    exact ⟨xs, ys, xs[i], ys[i], q.1, q.2, by simp [h1], by simp [h2]⟩
  · obtain ⟨n, x, u, e1, e2, e3, e4, e5⟩ := y
    exact ⟨n, x, u, e1, e2, e3, e4 xs q.1, e5 ys q.2⟩
theorem walk_zipT {K : PySem.W.Frag} {a b : Addr} {xs ys : List V} {n : Nat} (hn : n = min xs.length ys.length) : Walk (RZ.ItzT K a b) n (fun H => SqT K H a xs ∧ SqT K H b ys) (YPair (fun i => xs[i]?) (fun i => ys[i]?)) := by
  subst hn
  refine ⟨fun i _ hi q => ?_, fun _ q => ⟨xs, ys, q.1, q.2, by omega⟩, fun i H v H' _ q y => ?_⟩
  · have h1 : i < xs.length := by omega
    have h2 : i < ys.length := by omega
    exact ⟨xs, ys, xs[i], ys[i], q.1, q.2, by simp [h1], by simp [h2]⟩
  · obtain ⟨n, x, u, e1, e2, e3, e4, e5⟩ := y
    exact ⟨n, x, u, e1, e2, e3, e4 xs q.1, e5 ys q.2⟩
end W26

end

/-! ## WRows -/
section
set_option Elab.async false
set_option linter.all false
set_option maxRecDepth 100000
set_option maxHeartbeats 4000000
/-! Rows: sums, multiples, units, zeros, leads. -/
namespace W26
open PySem L2 M26
open Rp
/-- a comprehension without tests whose items are told by es -/
theorem lc_dat {β : Type} {J : It} {n : Nat} {G : Hp → Prop} {Y : Nat → Hp → V → Hp → Prop} (wk : Walk J n G Y) {g : TG} {te : TE} {vs : List Nat} {σ : St} {H1 : Hp} {D : Addr} {Qd : Hp → Prop} (es : List β) (R : Hp → V → β → Prop)
    (hn : n = es.length) (hz : n ≤ 1000) (hD : H1 D = none) (m1 : ∀ {H H' : Hp} {v : V} {x : β}, Same H H' → R H v x → R H' v x) (m2 : ∀ {H : Hp} {v : V} {x : β} {l l' : List V}, H D = some (.lst l) → R H v x → R (upd H D (.lst l')) v x)
    (hG : ∀ H, Same H1 H → G H)
    (hs : ∀ (i : Nat) (x : V) (H H' : Hp) (e : β), i < n → es[i]? = some e → Same H1 H → (∃ acc, H D = some (.lst acc)) → Y i H x H' → ∀ Nx : VK, (∀ y H4, R H4 y e → Same H H4 → Nx y H4) →
      g x (wipe σ vs) H' fun σ2 H2 => wipe σ2 vs = wipe σ vs ∧ te σ2 H2 Nx)
    (hd : ∀ H acc, Same H1 H → H D = some (.lst acc) → Al (R H) acc es → Qd H) :
    ∃ W : Nat → Nat → Hp → Prop, (∃ m, W 0 m (upd H1 D (.lst []))) ∧ ∀ i m H, W i m H →
      (J.stop i H ∧ Qd H) ∨ (J.go i H ∧ ∃ Nx : Hp → Prop, (∀ H', Nx H' → ∃ m', m' < m ∧ W (i + 1) m' H') ∧ ∀ x H', J.yld i H x H' → g x (wipe σ vs) H' fun σ2 H2 => wipe σ2 vs = wipe σ vs ∧ tYes σ2 H2 fun b H3 =>
        if b = true then te σ2 H3 fun y H4 => ∃ acc, H4 D = some (.lst acc) ∧ acc.length < sizeLine ∧ Nx (upd H4 D (.lst (acc ++ [y]))) else Nx H3) := by
  refine lc_it wk (fun i H => Same H1 H ∧ ∃ acc, H D = some (.lst acc) ∧ acc.length = i ∧ Al (R H) acc (es.take i)) ⟨Same.mut (Same.refl H1) hD, [], upd_same, rfl, by rw [List.take_zero]; exact Al.nil⟩ (fun i H _ q => hG H q.1) (fun i x H H' hi q y => ?_) (fun H q => ?_)
  · obtain ⟨s, acc, ha, hl, al⟩ := q
    obtain ⟨e, he⟩ : ∃ e, es[i]? = some e := ⟨es[i]'(by omega), List.getElem?_eq_getElem (by omega)⟩
    refine hs i x H H' e hi he s ⟨acc, ha⟩ y _ fun u H4 r s4 => ?_
    have ha4 : H4 D = some (.lst acc) := s4 _ _ ha
    refine ⟨acc, ha4, Nat.lt_of_lt_of_le (show acc.length < 1000 by omega) (by decide), Same.mut (s.trans s4) hD, acc ++ [u], upd_same, by rw [List.length_append, hl]; rfl, ?_⟩
    rw [List.take_add_one, he]
    exact Al.snoc (al.mono fun _ _ q => m2 ha4 (m1 s4 q)) (m2 ha4 r)
  · obtain ⟨s, acc, ha, hl, al⟩ := q
    rw [List.take_of_length_le (by omega)] at al
    exact hd H acc s ha al
theorem lt_line {n : Nat} (h : n ≤ 1000) : n ≤ sizeLine := Nat.le_trans h (by decide)
section
variable {P : Program} {w : World} {K : PySem.W.Frag} {mg : Str → Option Value} {base : Heap} {α : Type} [Rp α] {C : Addr}
/-! ### row_plus -/
abbrev s_row_plus : Stmt := topS 7
theorem sc_row_plus : FnScope ["field", "row", "weight", "other", "a", "b"] ["field", "row", "weight", "other"] (defScope s_row_plus) :=
  ⟨rfl, rfl, rfl, by decide +kernel, rfl, by decide +kernel, by decide +kernel⟩
def spRowPlus (α : Type) [Rp α] (C : Addr) : Sp := fun vs H Q _ => ∃ (fo : Addr) (v1 vw v2 : V) (xs ys : List α) (t : α), vs = [.ref fo, v1, vw, v2] ∧ FO α C H fo ∧ Row H v1 xs ∧ rep H vw t ∧ RowS H v2 ys ∧ xs.length = ys.length ∧ ys.length ≤ 1000 ∧ RpOk xs t ys ∧
  ∀ v H', Same H H' → Row H' v (rowPlus xs t ys) → Q v H'
theorem rep_m1 {H H' : Hp} {v : V} {x : α} (s : Same H H') (r : rep H v x) : rep H' v x := rep_ts (Tk.of s) r
theorem rep_m2 {D : Addr} {H : Hp} {v : V} {x : α} {l l' : List V} (h : H D = some (.lst l)) (r : rep H v x) : rep (upd H D (.lst l')) v x := rep_ts (Tk.lst h) r
theorem get_of {β : Type} {xs : List β} {i : Nat} (h : i < xs.length) : xs[i]? = some xs[i] := List.getElem?_eq_getElem h
theorem ok_row_plus {f : Addr} {fd : FuncData} (F : Fun K "row_plus" "row_plus" s_row_plus f fd) (T : Blt mg) (kit : FKit P w K mg base α C) : FnOk P w K mg base CX0 4 f fd ["field", "row", "weight", "other"] (spRowPlus α C) := by
  refine F.ok sc_row_plus (fun vs H Q E h => ?_) (fun cdv A outer s H vs Q E hr h => ?_)
  · obtain ⟨fo, v1, vw, v2, xs, ys, t, rfl, _⟩ := h
    rfl
  · obtain ⟨fo, v1, vw, v2, xs, ys, t, rfl, hF, ⟨a, us, rfl, ha, au⟩, rw_, ⟨b, ws, rfl, hb, aw⟩, hl, hz, ok, k⟩ := h
    refine ⟨_, (pss_one (ps_ret (pe_callTy (call_tupK (K := K) rfl) (by rfl) T.tuple (by decide +kernel) (pa_cons (pe_lc (own := [("a", 4), ("b", 5)]) (g := (gTup K 2 (gCons (gName 4) (gCons (gName 5) gNil)))) (tt := tYes) rfl sc_row_plus.nd (pi_zipM rfl T.zip (pa_cons (pv 1) (pa_cons (pv 3) pa_nil))) (blkOk_by (own := [("a", 4), ("b", 5)]) (N := ["field", "row", "weight", "other", "a", "b"]) (sc := (defScope s_row_plus)) (by decide +kernel)) (fun _ _ _ _ _ => (pg_tup rfl (pgs_cons (pg_name (i := 4) sc_row_plus.nd rfl (by first | exact Or.inl rfl | exact Or.inr rfl)) (pgs_cons (pg_name (i := 5) sc_row_plus.nd rfl (by first | exact Or.inl rfl | exact Or.inr rfl)) pgs_nil)))) (fun _ _ _ _ _ => pts_nil) (fun _ _ _ _ _ => (pe_md (pv 0) kit.cl kit.plus (hr.mono (by decide)) pass0 (pa_cons (pv 4) (pa_cons (pe_md (pv 0) kit.cl kit.times (hr.mono (by decide)) pass0 (pa_cons (pv 2) (pa_cons (pv 5) pa_nil))) pa_nil))))) pa_nil)))), ?_⟩
    have turn : ∀ (D : Addr) (i : Nat) (x : V) (H1 H' : Hp) (e : α), i < us.length → (rowPlus xs t ys)[i]? = some e → Same H H1 → YPair (fun i => us[i]?) (fun i => ws[i]?) i H1 x H' → ∀ Nx : VK, (∀ y H4, rep H4 y e → Same H1 H4 → Nx y H4) →
        gTup K 2 (gCons (gName 4) (gCons (gName 5) gNil)) x [some (.ref fo), some (.ref a), some vw, some (.ref b), none, none] H' fun σ2 H2 => wipe σ2 [4, 5] = [some (.ref fo), some (.ref a), some vw, some (.ref b), none, none] ∧
          (tMeth C "plus" (spBin α C (fun x y => x + y) fun _ _ => True) [] E0 (tVar 0) (tCons (tVar 4) (tCons (tMeth C "times" (spBin α C (fun x y => x * y) fun _ _ => True) [] E0 (tVar 0) (tCons (tVar 2) (tCons (tVar 5) tNil))) tNil))) σ2 H2 Nx := by
      intro D i x H1 H' e hi he s y Nx kk
      obtain ⟨n, x1, y1, rfl, hn, rfl, hx1, hy1⟩ := y
      have s2 : Same H (upd H1 n (.tup [x1, y1])) := s.trans (Same.new hn)
      obtain ⟨X1, hX1, rX⟩ := au.get hx1
      obtain ⟨Y1, hY1, rY⟩ := aw.get hy1
      have eq : e = X1 + t * Y1 := by
        unfold rowPlus at he
        rw [List.getElem?_zipWith, hX1, hY1] at he
        exact (Option.some.inj he).symm
      refine ⟨n, _, rfl, SqT.of upd_same, rfl, _, _, rfl, _, _, rfl, rfl, rfl, ?_⟩
      obtain ⟨dx, fs, h1, ff⟩ := hF.same s2
      refine ⟨_, rfl, fo, dx, fs, rfl, h1, ff.plus, _, rfl, _, rfl, fo, dx, fs, rfl, h1, ff.times, _, rfl, _, rfl, ?_⟩
      refine ⟨fo, _, _, t, Y1, rfl, ⟨dx, fs, h1, ff⟩, rep_m1 s2 rw_, rep_m1 s2 rY, ok.hw, ok.ho _ (List.mem_of_getElem? hY1), trivial, fun v3 H3 s3 r3 => ?_⟩
      refine ⟨fo, _, _, X1, t * Y1, rfl, (hF.same s2).same s3, rep_m1 (s2.trans s3) rX, r3, ok.hr _ (List.mem_of_getElem? hX1), ok.hp _ (List.mem_of_getElem? hY1), trivial, fun v4 H4 s4 r4 => ?_⟩
      refine kk v4 H4 ?_ (((Same.new hn).trans s3).trans s4)
      rw [eq]; exact r4
    have fin : ∀ (D : Addr) (H1 : Hp) (acc : List V), Same H H1 → H1 D = some (.lst acc) → Al (rep H1) acc (rowPlus xs t ys) → ∃ p zs, [V.ref D] = [V.ref p] ∧ ((SqL K H1 p zs ∧ ∀ l, H1 l = none → Q (.ref l) (upd H1 l (.tup zs))) ∨ (SqT K H1 p zs ∧ Q (.ref p) H1)) := fun D H1 acc s hacc al =>
      ⟨D, acc, rfl, .inl ⟨SqL.of hacc, fun l hl => k _ _ (s.trans (Same.new hl)) ⟨l, acc, rfl, upd_same, al_ts (Tk.new hl) al⟩⟩⟩
    have lenR : us.length = (rowPlus xs t ys).length := by rw [rowPlus_len hl, au.len]
    have mn : us.length = min us.length ws.length := by rw [au.len, aw.len]; omega
    rcases hb with hb | hb
    · refine ⟨_, rfl, _, rfl, a, b, us, ws, rfl, .inr ⟨SqT.of ha, SqL.of hb, fun D hD => ?_⟩⟩
      exact lc_dat (walk_zipM mn) (rowPlus xs t ys) rep lenR (by rw [au.len, hl]; exact hz) hD rep_m1 rep_m2 (fun H1 s => ⟨SqT.of (s _ _ ha), SqL.of (s _ _ hb)⟩)
        (fun i x H1 H' e hi he s _ y Nx kk => turn D i x H1 H' e hi he s y Nx kk) (fun H1 acc s hacc al => fin D H1 acc s hacc al)
    · refine ⟨_, rfl, _, rfl, a, b, us, ws, rfl, .inl ⟨SqT.of ha, SqT.of hb, fun D hD => ?_⟩⟩
      exact lc_dat (walk_zipT mn) (rowPlus xs t ys) rep lenR (by rw [au.len, hl]; exact hz) hD rep_m1 rep_m2 (fun H1 s => ⟨SqT.of (s _ _ ha), SqT.of (s _ _ hb)⟩)
        (fun i x H1 H' e hi he s _ y Nx kk => turn D i x H1 H' e hi he s y Nx kk) (fun H1 acc s hacc al => fin D H1 acc s hacc al)

/-! ### row_times -/
abbrev s_row_times : Stmt := topS 8
theorem sc_row_times : FnScope ["field", "row", "weight", "a"] ["field", "row", "weight"] (defScope s_row_times) :=
  ⟨rfl, rfl, rfl, by decide +kernel, rfl, by decide +kernel, by decide +kernel⟩
def spRowTimes (α : Type) [Rp α] (C : Addr) : Sp := fun vs H Q _ => ∃ (fo : Addr) (v1 vw : V) (xs : List α) (t : α), vs = [.ref fo, v1, vw] ∧ FO α C H fo ∧ Row H v1 xs ∧ rep H vw t ∧ xs.length ≤ 1000 ∧ Fd.Sm t ∧ (∀ x ∈ xs, Fd.Sm x) ∧
  ∀ v H', Same H H' → Row H' v (rowTimes xs t) → Q v H'
theorem ok_row_times {f : Addr} {fd : FuncData} (F : Fun K "row_times" "row_times" s_row_times f fd) (T : Blt mg) (kit : FKit P w K mg base α C) : FnOk P w K mg base CX0 4 f fd ["field", "row", "weight"] (spRowTimes α C) := by
  refine F.ok sc_row_times (fun vs H Q E h => ?_) (fun cdv A outer s H vs Q E hr h => ?_)
  · obtain ⟨fo, v1, vw, xs, t, rfl, _⟩ := h
    rfl
  · obtain ⟨fo, v1, vw, xs, t, rfl, hF, ⟨a, us, rfl, ha, au⟩, rw_, hz, st, sx, k⟩ := h
    refine ⟨_, (pss_one (ps_ret (pe_callTy (call_tupK (K := K) rfl) (by rfl) T.tuple (by decide +kernel) (pa_cons (pe_lc (own := [("a", 3)]) (g := (gName 3)) (tt := tYes) rfl sc_row_times.nd (pi_tupK (K := K) rfl (pv 1)) (blkOk_by (own := [("a", 3)]) (N := ["field", "row", "weight", "a"]) (sc := (defScope s_row_times)) (by decide +kernel)) (fun _ _ _ _ _ => pg_name (i := 3) sc_row_times.nd rfl (by first | exact Or.inl rfl | exact Or.inr rfl)) (fun _ _ _ _ _ => pts_nil) (fun _ _ _ _ _ => (pe_md (pv 0) kit.cl kit.times (hr.mono (by decide)) pass0 (pa_cons (pv 2) (pa_cons (pv 3) pa_nil))))) pa_nil)))), ?_⟩
    refine ⟨_, rfl, a, rfl, ⟨_, SqT.of ha⟩, fun D hD => ?_⟩
    refine lc_dat (walk_tup (xs := us)) (rowTimes xs t) rep (by rw [rowTimes_len, au.len]) (by rw [au.len]; exact hz) hD rep_m1 rep_m2 (fun H1 s => SqT.of (s _ _ ha)) (fun i x H1 H' e hi he s _ y Nx kk => ?_)
      (fun H1 acc s hacc al => ⟨D, acc, rfl, .inl ⟨SqL.of hacc, fun l hl => k _ _ (s.trans (Same.new hl)) ⟨l, acc, rfl, upd_same, al_ts (Tk.new hl) al⟩⟩⟩)
    obtain ⟨rfl, hx⟩ := y
    obtain ⟨X1, hX1, rX⟩ := au.get hx
    have eq : e = t * X1 := by
      unfold rowTimes at he
      rw [List.getElem?_map, hX1] at he
      exact (Option.some.inj he).symm
    refine ⟨rfl, ?_⟩
    obtain ⟨dx, fs, h1, ff⟩ := hF.same s
    refine ⟨_, rfl, fo, dx, fs, rfl, h1, ff.times, _, rfl, _, rfl, ?_⟩
    refine ⟨fo, _, _, t, X1, rfl, ⟨dx, fs, h1, ff⟩, rep_m1 s rw_, rep_m1 s rX, st, sx _ (List.mem_of_getElem? hX1), trivial, fun v3 H3 s3 r3 => kk v3 H3 ?_ s3⟩
    rw [eq]; exact r3

/-! ### zero_row -/
abbrev s_zero_row : Stmt := topS 10
theorem sc_zero_row : FnScope ["field", "width", "_"] ["field", "width"] (defScope s_zero_row) :=
  ⟨rfl, rfl, rfl, by decide +kernel, rfl, by decide +kernel, by decide +kernel⟩
def spZero (α : Type) [Rp α] (C : Addr) : Sp := fun vs H Q _ => ∃ (fo : Addr) (n : Nat), vs = [.ref fo, .int (n : Nat)] ∧ FO α C H fo ∧ n ≤ 1000 ∧ ∀ v H', Same H H' → Row H' v (zeroRow n : List α) → Q v H'
theorem ok_zero_row {f : Addr} {fd : FuncData} (F : Fun K "zero_row" "zero_row" s_zero_row f fd) (T : Blt mg) (kit : FKit P w K mg base α C) : FnOk P w K mg base CX0 1 f fd ["field", "width"] (spZero α C) := by
  refine F.ok sc_zero_row (fun vs H Q E h => ?_) (fun cdv A outer s H vs Q E hr h => ?_)
  · obtain ⟨fo, n, rfl, _⟩ := h
    rfl
  · obtain ⟨fo, n, rfl, hF, hz, k⟩ := h
    refine ⟨_, (pss_one (ps_ret (pe_callTy (call_tupK (K := K) rfl) (by rfl) T.tuple (by decide +kernel) (pa_cons (pe_lc (own := [("_", 2)]) (g := (gName 2)) (tt := tYes) rfl sc_zero_row.nd (pi_range1 rfl T.range (pa_cons (pv 1) pa_nil)) (blkOk_by (own := [("_", 2)]) (N := ["field", "width", "_"]) (sc := (defScope s_zero_row)) (by decide +kernel)) (fun _ _ _ _ _ => pg_name (i := 2) sc_zero_row.nd rfl (by first | exact Or.inl rfl | exact Or.inr rfl)) (fun _ _ _ _ _ => pts_nil) (fun _ _ _ _ _ => (pe_fldK (K := K) rfl (pv 0) rfl))) pa_nil)))), ?_⟩
    refine ⟨_, rfl, (n : Int), rfl, by omega, by omega, fun D hD => ?_⟩
    refine lc_dat (walk_range (lo := 0) (n := ((n : Nat) : Int).toNat)) (zeroRow n : List α) rep (by unfold zeroRow; rw [List.length_replicate]; omega) (by omega) hD rep_m1 rep_m2 (fun H1 s => trivial) (fun i x H1 H' e hi he s _ y Nx kk => ?_)
      (fun H1 acc s hacc al => ⟨D, acc, rfl, .inl ⟨SqL.of hacc, fun l hl => k _ _ (s.trans (Same.new hl)) ⟨l, acc, rfl, upd_same, al_ts (Tk.new hl) al⟩⟩⟩)
    obtain ⟨rfl, rfl⟩ := y
    refine ⟨rfl, ?_⟩
    obtain ⟨dx, fs, h1, ff⟩ := hF.same s
    obtain ⟨v0, z1, z2⟩ := ff.zero
    have eq : e = 0 := by
      unfold zeroRow at he
      exact (List.mem_replicate.mp (List.mem_of_getElem? he)).2
    refine ⟨_, rfl, fo, C, dx, fs, v0, rfl, h1, kit.cl, kit.nz, z1, kk _ _ ?_ (Same.refl _)⟩
    rw [eq]; exact z2

/-! ### field_units -/
abbrev s_field_units : Stmt := topS 9
theorem sc_field_units : FnScope ["field", "width", "i", "j"] ["field", "width"] (defScope s_field_units) :=
  ⟨rfl, rfl, rfl, by decide +kernel, rfl, by decide +kernel, by decide +kernel⟩
def spUnits (α : Type) [Rp α] (C : Addr) : Sp := fun vs H Q _ => ∃ (fo : Addr) (n : Nat), vs = [.ref fo, .int (n : Nat)] ∧ FO α C H fo ∧ n ≤ 1000 ∧ ∀ v H', Same H H' → RwsU H' v (unitRows n : List (List α)) → Q v H'
theorem row_m1 {H H' : Hp} {v : V} {x : List α} (s : Same H H') (r : Row H v x) : Row H' v x := r.ts (Tk.of s)
theorem row_m2 {D : Addr} {H : Hp} {v : V} {x : List α} {l l' : List V} (h : H D = some (.lst l)) (r : Row H v x) : Row (upd H D (.lst l')) v x := r.ts (Tk.lst h)
theorem ok_field_units {f : Addr} {fd : FuncData} (F : Fun K "field_units" "field_units" s_field_units f fd) (T : Blt mg) (kit : FKit P w K mg base α C) : FnOk P w K mg base CX0 1 f fd ["field", "width"] (spUnits α C) := by
  refine F.ok sc_field_units (fun vs H Q E h => ?_) (fun cdv A outer s H vs Q E hr h => ?_)
  · obtain ⟨fo, n, rfl, _⟩ := h
    rfl
  · obtain ⟨fo, n, rfl, hF, hz, k⟩ := h
    refine ⟨_, (pss_one (ps_ret (pe_callTy (call_tupK (K := K) rfl) (by rfl) T.tuple (by decide +kernel) (pa_cons (pe_lc (own := [("i", 2)]) (g := (gName 2)) (tt := tYes) rfl sc_field_units.nd (pi_range1 rfl T.range (pa_cons (pv 1) pa_nil)) (blkOk_by (own := [("i", 2)]) (N := ["field", "width", "i", "j"]) (sc := (defScope s_field_units)) (by decide +kernel)) (fun _ _ _ _ _ => pg_name (i := 2) sc_field_units.nd rfl (by first | exact Or.inl rfl | exact Or.inr rfl)) (fun _ _ _ _ _ => pts_nil) (fun _ _ _ _ _ => (pe_callTy (call_tupK (K := K) rfl) (by rfl) T.tuple (by decide +kernel) (pa_cons (pe_lc (own := [("j", 3)]) (g := (gName 3)) (tt := tYes) rfl sc_field_units.nd (pi_range1 rfl T.range (pa_cons (pv 1) pa_nil)) (blkOk_by (own := [("j", 3)]) (N := ["field", "width", "i", "j"]) (sc := (relS _ (defScope s_field_units))) (by decide +kernel)) (fun _ _ _ _ _ => pg_name (i := 3) sc_field_units.nd rfl (by first | exact Or.inl rfl | exact Or.inr rfl)) (fun _ _ _ _ _ => pts_nil) (fun _ _ _ _ _ => (pe_ifExp (pt_cmpR op_eq (pv 2) (pv 3) (nomark _)) (pe_fldK (K := K) rfl (pv 0) rfl) (pe_fldK (K := K) rfl (pv 0) rfl)))) pa_nil)))) pa_nil)))), ?_⟩
    refine ⟨_, rfl, (n : Int), rfl, by omega, by omega, fun D hD => ?_⟩
    refine lc_dat (walk_range (lo := 0) (n := ((n : Nat) : Int).toNat)) (unitRows n : List (List α)) Row (by rw [unitRows_len]; omega) (by omega) hD row_m1 row_m2 (fun H1 s => trivial) (fun i x H1 H' e hi he s _ y Nx kk => ?_)
      (fun H1 acc s hacc al => ⟨D, acc, rfl, .inl ⟨SqL.of hacc, fun l hl => k _ _ (s.trans (Same.new hl)) ⟨l, acc, rfl, upd_same, al.mono fun _ _ r => r.ts (Tk.new hl)⟩⟩⟩)
    obtain ⟨rfl, rfl⟩ := y
    have eq : e = unitRow n i := by
      unfold unitRows at he
      rw [List.getElem?_map, List.getElem?_range (by omega)] at he
      exact (Option.some.inj he).symm
    subst eq
    refine ⟨rfl, ?_⟩
    refine ⟨_, rfl, (n : Int), rfl, by omega, by omega, fun D2 hD2 => ?_⟩
    refine lc_dat (walk_range (lo := 0) (n := ((n : Nat) : Int).toNat)) (unitRow n i : List α) rep (by rw [unitRow_len]; omega) (by omega) hD2 rep_m1 rep_m2 (fun H1 s => trivial) (fun j x H2 H3 e hj he2 s2 _ y Nx kk2 => ?_)
      (fun H2 acc s2 hacc al => ⟨D2, acc, rfl, .inl ⟨SqL.of hacc, fun l hl => kk _ _ ⟨l, acc, rfl, upd_same, al_ts (Tk.new hl) al⟩ (s2.trans (Same.new hl))⟩⟩)
    obtain ⟨rfl, rfl⟩ := y
    obtain ⟨dx, fs, h1, ff⟩ := hF.same (s.trans s2)
    have eq : e = if i = j then 1 else 0 := by
      unfold unitRow at he2
      rw [List.getElem?_map, List.getElem?_range (by omega)] at he2
      exact (Option.some.inj he2).symm
    refine ⟨rfl, ?_⟩
    refine ⟨_, rfl, _, rfl, rfl, _, rfl, ?_⟩
    refine ite2 (fun c => ?_) (fun c => ?_)
    · have c : i = j := by
        have z := of_decide_eq_true c
        injection z with z
        omega
      obtain ⟨v1, z1, z2⟩ := ff.one
      refine ⟨_, rfl, fo, C, dx, fs, v1, rfl, h1, kit.cl, kit.no, z1, kk2 _ _ ?_ (Same.refl _)⟩
      rw [eq, if_pos c]; exact z2
    · have c : ¬ i = j := fun z => c (decide_eq_true (by rw [z]))
      obtain ⟨v0, z1, z2⟩ := ff.zero
      refine ⟨_, rfl, fo, C, dx, fs, v0, rfl, h1, kit.cl, kit.nz, z1, kk2 _ _ ?_ (Same.refl _)⟩
      rw [eq, if_neg c]; exact z2

/-! ### lead_of -/
abbrev s_lead_of : Stmt := topS 11
theorem sc_lead_of : FnScope ["field", "row", "place", "number"] ["field", "row"] (defScope s_lead_of) :=
  ⟨rfl, rfl, rfl, by decide +kernel, rfl, by decide +kernel, by decide +kernel⟩
/-- a place or None -/
def leadV : Option Nat → V
  | none => .non
  | some j => .int (j : Nat)
def spLead (α : Type) [Rp α] (C : Addr) : Sp := fun vs H Q _ => ∃ (fo : Addr) (v : V) (xs : List α), vs = [.ref fo, v] ∧ FO α C H fo ∧ Row H v xs ∧ ∀ H', Same H H' → Q (leadV (leadOf xs)) H'
theorem lead_at {xs : List α} {i : Nat} {x : α} (hx : xs[i]? = some x) (hne : x ≠ 0) (h : ∀ j, j < i → fn xs j = 0) : leadOf xs = some i := by
  unfold leadOf
  rw [List.findIdx?_eq_some_iff_getElem]
  obtain ⟨hi, e⟩ := List.getElem?_eq_some_iff.mp hx
  refine ⟨hi, by rw [e]; simpa using hne, fun j hj => ?_⟩
  have := h j hj
  rw [fn_lt (by omega)] at this
  simpa using this
theorem lead_no {xs : List α} (h : ∀ j, j < xs.length → fn xs j = 0) : leadOf xs = none := by
  unfold leadOf
  rw [List.findIdx?_eq_none_iff]
  intro x hx
  obtain ⟨j, hj, e⟩ := List.getElem_of_mem hx
  have := h j hj
  rw [fn_lt hj, e] at this
  simpa using this
theorem ok_lead_of {f : Addr} {fd : FuncData} (F : Fun K "lead_of" "lead_of" s_lead_of f fd) (T : Blt mg) (kit : FKit P w K mg base α C) : FnOk P w K mg base CX0 1 f fd ["field", "row"] (spLead α C) := by
  refine F.ok sc_lead_of (fun vs H Q E h => ?_) (fun cdv A outer s H vs Q E hr h => ?_)
  · obtain ⟨fo, v, xs, rfl, _⟩ := h
    rfl
  · obtain ⟨fo, v, xs, rfl, hF, ⟨a, us, rfl, ha, au⟩, k⟩ := h
    refine ⟨_, (pss_cons (ps_for PassesOwn.never rfl (pi_enumM rfl T.enumerate (pa_cons (pv 1) pa_nil)) (pg_tup rfl (pgs_cons (pg_name (i := 2) sc_lead_of.nd rfl (by first | exact Or.inl rfl | exact Or.inr rfl)) (pgs_cons (pg_name (i := 3) sc_lead_of.nd rfl (by first | exact Or.inl rfl | exact Or.inr rfl)) pgs_nil)))
      (pss_one (ps_if (pt_cmpR (op_neK (K := K) rfl hr.units) (pv 3) (pe_fldK (K := K) rfl (pv 0) rfl) (nomark _))
      (pss_one (ps_ret (pv 2)))
      pss_nil)))
      (pss_one (ps_ret pe_non))), ?_⟩
    refine ⟨_, rfl, a, us, rfl, .inr ⟨SqT.of ha, ?_⟩⟩
    refine for_it (walk_enumT (K := K) (a := a) (xs := us)) (fun i σ H1 => Same H H1 ∧ (∀ j, j < i → fn xs j = 0) ∧ ∃ p n, σ = [some (.ref fo), some (.ref a), p, n]) ⟨Same.refl H, fun j hj => absurd hj (Nat.not_lt_zero j), none, none, rfl⟩
      (fun i σ H1 _ q => SqT.of (q.1 _ _ ha)) (fun i x σ H1 H' hi q y => ?_) (fun σ H1 q => ?_)
    · obtain ⟨s, hz, p, n, rfl⟩ := q
      obtain ⟨t, x1, y1, rfl, ht, rfl, hx1, hy1⟩ := y
      cases hx1
      obtain ⟨Y1, hY1, rY⟩ := au.get hy1
      have s2 : Same H (upd H1 t (.tup [.int (i : Nat), y1])) := s.trans (Same.new ht)
      obtain ⟨dx, fs, h1, ff⟩ := hF.same s2
      obtain ⟨v0, z1, z2⟩ := ff.zero
      refine ⟨t, _, rfl, SqT.of upd_same, rfl, _, _, rfl, _, _, rfl, rfl, ?_⟩
      refine ⟨_, rfl, _, rfl, fo, C, dx, fs, v0, rfl, h1, kit.cl, kit.nz, z1, dat Y1, dat (0 : α), rep_dp (rep_m1 s2 rY), rep_dp z2, dat_shaped _, dat_shaped _, _, rfl, ?_⟩
      rw [dat_eqv]
      refine ite2 (fun c => ?_) (fun c => ?_)
      · have ne : Y1 ≠ 0 := fun z => by
          rw [decide_eq_true z] at c
          exact absurd c (by decide)
        have e := lead_at hY1 ne hz
        have kk := k _ s2
        rw [e] at kk
        exact ⟨_, rfl, kk⟩
      · have eq : Y1 = 0 := Classical.byContradiction fun z => c (by rw [decide_eq_false z]; rfl)
        refine ⟨s2, fun j hj => ?_, _, _, rfl⟩
        by_cases hj' : j < i
        · exact hz j hj'
        · have : j = i := by omega
          subst this
          obtain ⟨h5, h6⟩ := List.getElem?_eq_some_iff.mp hY1
          rw [fn_lt h5, h6, eq]
    · obtain ⟨s, hz, p, n, rfl⟩ := q
      have kk := k _ s
      rw [lead_no (xs := xs) (by rw [← au.len]; exact hz)] at kk
      exact kk
end
end W26

end

/-! ## WRed -/
section
set_option Elab.async false
set_option linter.all false
set_option maxRecDepth 100000
set_option maxHeartbeats 8000000
/-! The reduction of rows. -/
namespace W26
open PySem L2 M26
open Rp
section
variable {P : Program} {w : World} {K : PySem.W.Frag} {mg : Str → Option Value} {base : Heap} {α : Type} [Rp α] {C : Addr}
/-- tuple(row) -/
theorem tup_row {H : Hp} {v : V} {xs : List α} {Q : VK} (h : RowS H v xs) (k : ∀ v' H', Same H H' → Row H' v' xs → Q v' H') : rTupK K [v] H Q := by
  obtain ⟨a, vs, rfl, ha, al⟩ := h
  rcases ha with ha | ha
  · exact ⟨a, vs, rfl, .inl ⟨SqL.of ha, fun l hl => k _ _ (Same.new hl) ⟨l, vs, rfl, upd_same, al_ts (Tk.new hl) al⟩⟩⟩
  · exact ⟨a, vs, rfl, .inr ⟨SqT.of ha, k _ _ (Same.refl H) ⟨a, vs, rfl, ha, al⟩⟩⟩
def rTupRow (α : Type) [Rp α] : List V → Hp → VK → Prop := fun vs H Q => ∃ (v : V) (xs : List α), vs = [v] ∧ RowS H v xs ∧ ∀ v' H', Same H H' → Row H' v' xs → Q v' H'
theorem call_tupRow {X : Cx} : CallR X (.type "tuple") (rTupRow α) := fun pins s σ H xs us Q I r h => by
  obtain ⟨v, ys, rfl, hr, k⟩ := h
  exact call_tupK (K := X.K) rfl pins s σ H [v] us Q I r (tup_row hr k)
/-- row[i] -/
theorem row_at {H : Hp} {v : V} {xs : List α} {i : Nat} (h : Row H v xs) (hi : i < xs.length) : ∃ (a : Addr) (vs : List V) (u : V), v = .ref a ∧ SqT K H a vs ∧ atI vs (i : Int) = some u ∧ rep H u (fn xs i) := by
  obtain ⟨a, vs, rfl, ha, al⟩ := h
  obtain ⟨u, hu, r⟩ := al.at (i := i) (x := fn xs i) (by rw [fn_lt hi]; exact List.getElem?_eq_getElem hi)
  exact ⟨a, vs, u, rfl, SqT.of ha, atI_nat hu, r⟩
/-- a kept step as it stands -/
def StepR (H : Hp) (v : V) (k : Stp α) : Prop := ∃ (a : Addr) (v1 v2 : V), v = .ref a ∧ H a = some (.tup [.int (k.1 : Nat), v1, v2]) ∧ Row H v1 k.2.1 ∧ Row H v2 k.2.2
theorem StepR.ts {H H' : Hp} {v : V} {k : Stp α} (t : Tk H H') (h : StepR H v k) : StepR H' v k := by
  obtain ⟨a, v1, v2, e, h1, h2, h3⟩ := h
  exact ⟨a, v1, v2, e, t _ _ h1, h2.ts t, h3.ts t⟩
/-- the kept steps' list -/
def KeptR (H : Hp) (kp : Addr) (kept : List (Stp α)) : Prop := ∃ kvs, H kp = some (.lst kvs) ∧ Al (StepR H) kvs kept
abbrev s_reduced_rows : Stmt := topS 12
theorem sc_reduced_rows : FnScope ["field", "rows", "kept", "dropped", "units", "place", "row", "left_row", "weights", "lead", "done", "made", "factor"] ["field", "rows"] (defScope s_reduced_rows) :=
  ⟨rfl, rfl, rfl, by decide +kernel, rfl, by decide +kernel, by decide +kernel⟩
/-- what a reduction asks of its rows -/
structure RedOk (rows : List (List α)) (wd B : Nat) : Prop where
  wid : ∀ r ∈ rows, r.length = wd
  wm : wd ≤ 1000
  len : rows.length ≤ 6
  hB : B ≤ 60
  cf : RowsCf B rows
def spRed (α : Type) [Rp α] (C : Addr) : Sp := fun vs H Q _ => ∃ (fo : Addr) (vr : V) (rows : List (List α)) (wd B : Nat), vs = [.ref fo, vr] ∧ FO α C H fo ∧ Rws H vr rows ∧ RedOk rows wd B ∧
  ∀ (t kp dp : Addr) (H' : Hp), Same H H' → H' t = some (.tup [.ref kp, .ref dp]) → KeptR H' kp (redKept rows) → Q (.ref t) H'
theorem ok_reduced_rows {f : Addr} {fd : FuncData} (F : Fun K "reduced_rows" "reduced_rows" s_reduced_rows f fd) (T : Blt mg) (kit : FKit P w K mg base α C)
    (D_row_plus : Dfn P w K mg base CX0 4 "row_plus" ["field", "row", "weight", "other"] (spRowPlus α C)) (D_row_times : Dfn P w K mg base CX0 4 "row_times" ["field", "row", "weight"] (spRowTimes α C))
    (D_field_units : Dfn P w K mg base CX0 1 "field_units" ["field", "width"] (spUnits α C)) (D_lead_of : Dfn P w K mg base CX0 1 "lead_of" ["field", "row"] (spLead α C)) :
    FnOk P w K mg base CX0 5 f fd ["field", "rows"] (spRed α C) := by
  refine F.ok sc_reduced_rows (fun vs H Q E h => ?_) (fun cdv A outer s H vs Q E hr h => ?_)
  · obtain ⟨fo, vr, rows, wd, B, rfl, _⟩ := h
    rfl
  · obtain ⟨fo, vr, rows, wd, B, rfl, hF, ⟨rp, rvs, rfl, hrp, arows⟩, ok, k⟩ := h
    refine ⟨_, (pss_cons (ps_set (i := 2) sc_reduced_rows.nd rfl (by first | exact Or.inl rfl | exact Or.inr rfl) (pe_lst pa_nil))
      (pss_cons (ps_set (i := 3) sc_reduced_rows.nd rfl (by first | exact Or.inl rfl | exact Or.inr rfl) (pe_lst pa_nil))
      (pss_cons (ps_set (i := 4) sc_reduced_rows.nd rfl (by first | exact Or.inl rfl | exact Or.inr rfl) (pe_cd D_field_units (hr.mono (by decide)) pass0 (pa_cons (pv 0) (pa_cons (pe_callB (call_lenK (K := K) rfl) (by rfl) T.len PySem.boot_len (pa_cons (pv 1) pa_nil)) pa_nil))))
      (pss_cons (ps_for PassesOwn.never rfl (pi_enumM rfl T.enumerate (pa_cons (pv 1) pa_nil)) (pg_tup rfl (pgs_cons (pg_name (i := 5) sc_reduced_rows.nd rfl (by first | exact Or.inl rfl | exact Or.inr rfl)) (pgs_cons (pg_name (i := 6) sc_reduced_rows.nd rfl (by first | exact Or.inl rfl | exact Or.inr rfl)) pgs_nil)))
      (pss_cons (ps_set (i := 7) sc_reduced_rows.nd rfl (by first | exact Or.inl rfl | exact Or.inr rfl) (pe_callTy (call_tupRow (α := α)) (by rfl) T.tuple (by decide +kernel) (pa_cons (pv 6) pa_nil)))
      (pss_cons (ps_set (i := 8) sc_reduced_rows.nd rfl (by first | exact Or.inl rfl | exact Or.inr rfl) (pe_ix (ix_tupK (K := K) rfl) (pv 4) (pv 5) (fun _ _ => rfl)))
      (pss_cons (ps_for PassesOwn.never rfl (pi_lstK (K := K) rfl (pv 2)) (pg_tup rfl (pgs_cons (pg_name (i := 9) sc_reduced_rows.nd rfl (by first | exact Or.inl rfl | exact Or.inr rfl)) (pgs_cons (pg_name (i := 10) sc_reduced_rows.nd rfl (by first | exact Or.inl rfl | exact Or.inr rfl)) (pgs_cons (pg_name (i := 11) sc_reduced_rows.nd rfl (by first | exact Or.inl rfl | exact Or.inr rfl)) pgs_nil))))
      (pss_cons (ps_set (i := 12) sc_reduced_rows.nd rfl (by first | exact Or.inl rfl | exact Or.inr rfl) (pe_md (pv 0) kit.cl kit.less (hr.mono (by decide)) pass0 (pa_cons (pe_fldK (K := K) rfl (pv 0) rfl) (pa_cons (pe_ix (ix_tupK (K := K) rfl) (pv 7) (pv 9) (fun _ _ => rfl)) pa_nil))))
      (pss_cons (ps_set (i := 7) sc_reduced_rows.nd rfl (by first | exact Or.inl rfl | exact Or.inr rfl) (pe_cd D_row_plus (hr.mono (by decide)) pass0 (pa_cons (pv 0) (pa_cons (pv 7) (pa_cons (pv 12) (pa_cons (pv 10) pa_nil))))))
      (pss_one (ps_set (i := 8) sc_reduced_rows.nd rfl (by first | exact Or.inl rfl | exact Or.inr rfl) (pe_cd D_row_plus (hr.mono (by decide)) pass0 (pa_cons (pv 0) (pa_cons (pv 8) (pa_cons (pv 12) (pa_cons (pv 11) pa_nil))))))))))
      (pss_cons (ps_set (i := 9) sc_reduced_rows.nd rfl (by first | exact Or.inl rfl | exact Or.inr rfl) (pe_cd D_lead_of (hr.mono (by decide)) pass0 (pa_cons (pv 0) (pa_cons (pv 7) pa_nil))))
      (pss_one (ps_if (pt_cmpR op_isN (pv 9) pe_non (nomark _))
      (pss_one (ps_expr (pe_bm PySem.F.plainAttrs_list PySem.F.slot_list_append PySem.F.type_list_append mt_append (pv 3) (pa_cons (pv 8) pa_nil))))
      (pss_cons (ps_set (i := 12) sc_reduced_rows.nd rfl (by first | exact Or.inl rfl | exact Or.inr rfl) (pe_md (pv 0) kit.cl kit.quotient (hr.mono (by decide)) pass0 (pa_cons (pe_fldK (K := K) rfl (pv 0) rfl) (pa_cons (pe_ix (ix_tupK (K := K) rfl) (pv 7) (pv 9) (fun _ _ => rfl)) pa_nil))))
      (pss_one (ps_expr (pe_bm PySem.F.plainAttrs_list PySem.F.slot_list_append PySem.F.type_list_append mt_append (pv 2) (pa_cons (pe_tup (pa_cons (pv 9) (pa_cons (pe_cd D_row_times (hr.mono (by decide)) pass0 (pa_cons (pv 0) (pa_cons (pv 7) (pa_cons (pv 12) pa_nil)))) (pa_cons (pe_cd D_row_times (hr.mono (by decide)) pass0 (pa_cons (pv 0) (pa_cons (pv 8) (pa_cons (pv 12) pa_nil)))) pa_nil)))) pa_nil))))))))))))
      (pss_one (ps_ret (pe_tup (pa_cons (pv 2) (pa_cons (pv 3) pa_nil))))))))), ?_⟩
    have hlen : rvs.length = rows.length := arows.len
    -- kept, dropped, units
    refine ⟨Nat.zero_le _, fun kp nkp => ⟨Nat.zero_le _, fun dp ndp => ?_⟩⟩
    have kd : kp ≠ dp := ne_of_none upd_same ndp
    have ndp0 : H dp = none := by rw [upd_ne (Ne.symm kd)] at ndp; exact ndp
    have s0 : Same H (upd (upd H kp (.lst [])) dp (.lst [])) := Same.mut (Same.new nkp) ndp0
    refine ⟨_, rfl, _, rfl, rp, rvs, rfl, .inl (SqL.of (s0 _ _ hrp)), fo, rvs.length, rfl, hF.same s0, by have := ok.len; omega, fun vu Hu su ru => ?_⟩
    -- the rows
    refine ⟨_, rfl, rp, rvs, rfl, .inl ⟨SqL.of ((s0.trans su) _ _ hrp), ?_⟩⟩
    refine for_it (walk_enum (K := K) (a := rp) (xs := rvs)) (fun i σ H1 => Same H H1 ∧ ∃ (kvs dvs : List V) (p r l ws ld dn md fc : Option V), σ = [some (.ref fo), some (.ref rp), some (.ref kp), some (.ref dp), some vu, p, r, l, ws, ld, dn, md, fc] ∧
        H1 kp = some (.lst kvs) ∧ H1 dp = some (.lst dvs) ∧ dvs.length ≤ i ∧ Al (StepR H1) kvs (keptTo rows i) ∧ RwsU H1 vu (unitRows rvs.length : List (List α)))
      ⟨s0.trans su, [], [], none, none, none, none, none, none, none, none, rfl, su _ _ (by rw [upd_ne kd]; exact upd_same), su _ _ upd_same, Nat.le_refl _, by rw [keptTo_zero]; exact Al.nil, ru⟩
      (fun i σ H1 _ q => SqL.of (q.1 _ _ hrp)) (fun i x σ H1 H' hi q y => ?_) (fun σ H1 q => ?_)
    · obtain ⟨s1, kvs, dvs, p, r, l, ws, ld, dn, md, fc, rfl, hk, hd, hdl, ak, hu⟩ := q
      obtain ⟨t, x1, y1, rfl, ht, rfl, hx1, hy1⟩ := y
      cases hx1
      obtain ⟨row, hrow, rrow⟩ := arows.get hy1
      have hi' : i < rows.length := by omega
      have kt : kp ≠ t := ne_of_none hk ht
      have dt : dp ≠ t := ne_of_none hd ht
      have s2 : Same H1 (upd H1 t (.tup [.int (i : Nat), y1])) := Same.new ht
      refine ⟨t, _, rfl, SqT.of upd_same, rfl, _, _, rfl, _, _, rfl, rfl, ?_⟩
      -- left_row, weights
      refine ⟨_, rfl, _, row, rfl, rrow.same (s1.trans s2), fun vl Hl sl rl => ?_⟩
      have s3 : Same H1 Hl := s2.trans sl
      obtain ⟨ua, uvs, rfl, hua, au⟩ := hu.ts (Tk.of s3)
      obtain ⟨wv, hwv, rw_⟩ := au.at (i := i) (x := unitRow rows.length i) (by rw [hlen]; unfold unitRows; rw [List.getElem?_map, List.getElem?_range hi']; rfl)
      refine ⟨_, rfl, _, rfl, ua, uvs, (i : Int), wv, rfl, rfl, SqT.of hua, atI_nat hwv, ?_⟩
      -- the steps kept so far
      have go := fun j => elim_going (i := i) ok.wid ok.cf ok.hB ok.len hrow j
      have kok := keptTo_ok ok.wid i
      have hkl : Hl kp = some (.lst kvs) := s3 _ _ hk
      have akl : Al (StepR Hl) kvs (keptTo rows i) := ak.mono fun _ _ q => q.ts (Tk.of s3)
      refine ⟨_, rfl, kp, rfl, ⟨_, SqL.of hkl⟩, for_list (K := K) (a := kp) (xs := kvs) (fun j σ H2 => Same Hl H2 ∧ ∃ (vl vw : V) (ld dn md fc : Option V), σ = [some (.ref fo), some (.ref rp), some (.ref kp), some (.ref dp), some (.ref ua), some (.int (i : Nat)), some y1, some vl, some vw, ld, dn, md, fc] ∧
          Row H2 vl (((keptTo rows i).take j).foldl elim (row, unitRow rows.length i)).1 ∧ Row H2 vw (((keptTo rows i).take j).foldl elim (row, unitRow rows.length i)).2)
        ⟨Same.refl Hl, vl, wv, ld, dn, md, fc, rfl, by rw [List.take_zero]; exact rl, by rw [List.take_zero]; exact rw_⟩ (fun j σ H2 _ q => SqL.of (q.1 _ _ hkl)) (fun j x2 σ H2 hx2 q => ?_) (fun σ H2 q => ?_)⟩
      · obtain ⟨s4, vl2, vw2, ld, dn, md, fc, rfl, r1, r2⟩ := q
        obtain ⟨stp, hstp, rst⟩ := akl.get hx2
        obtain ⟨sa, v1, v2, rfl, hsa, rd, rm⟩ := rst.ts (Tk.of s4)
        have g := go j
        obtain ⟨p1, p2, _⟩ := g.next stp hstp
        obtain ⟨hl1, hl2, hl3⟩ := kok.len stp (List.mem_of_getElem? hstp)
        generalize hS : ((keptTo rows i).take j).foldl elim (row, unitRow rows.length i) = S at r1 r2 g p1 p2
        have gl1 : S.1.length = wd := by rw [← hS]; exact (go j).l1
        have gl2 : S.2.length = rows.length := by rw [← hS]; exact (go j).l2
        have gs0 : ∀ i, Fd.Sm (fn S.1 i) := by rw [← hS]; exact (go j).sm0
        refine ⟨sa, _, rfl, SqT.of hsa, rfl, _, _, rfl, _, _, rfl, _, _, rfl, rfl, ?_⟩
        -- factor
        have sH : Same H H2 := (s1.trans s3).trans s4
        obtain ⟨dx, fs, h1, ff⟩ := hF.same sH
        obtain ⟨v0, z1, z2⟩ := ff.zero
        obtain ⟨la, lvs, lu, rfl, hla, hlu, rlu⟩ := row_at (K := K) r1 (i := stp.1) (by omega)
        refine ⟨_, rfl, fo, dx, fs, rfl, h1, ff.less, _, rfl, fo, C, dx, fs, v0, rfl, h1, kit.cl, kit.nz, z1, _, rfl, _, rfl, la, lvs, (stp.1 : Int), lu, rfl, rfl, hla, hlu, ?_⟩
        refine ⟨fo, _, _, 0, fn S.1 stp.1, rfl, ⟨dx, fs, h1, ff⟩, z2, rlu, sm_zero, gs0 _, trivial, fun vf Hf sf rf => ?_⟩
        refine ⟨_, rfl, _, rfl, _, rfl, _, rfl, fo, _, _, _, S.1, stp.2.1, 0 - fn S.1 stp.1, rfl, (hF.same sH).same sf, r1.ts (Tk.of sf), rf, (rd.ts (Tk.of sf)).s, by omega, by rw [hl2]; exact ok.wm, p1, fun v3 H3 s5 r3 => ?_⟩
        refine ⟨_, rfl, _, rfl, _, rfl, _, rfl, fo, _, _, _, S.2, stp.2.2, 0 - fn S.1 stp.1, rfl, (hF.same sH).same (sf.trans s5), r2.ts (Tk.of (sf.trans s5)), rep_m1 s5 rf, (rm.ts (Tk.of (sf.trans s5))).s, by omega, by rw [hl3]; have := ok.len; omega, p2, fun v4 H4 s6 r4 => ?_⟩
        have e := foldl_take_succ (f := elim) (b := (row, unitRow rows.length i)) hstp
        rw [hS] at e
        refine ⟨s4.trans ((sf.trans s5).trans s6), _, _, _, _, _, _, rfl, ?_, ?_⟩
        · rw [e]; exact r3.ts (Tk.of s6)
        · rw [e]; exact r4
      · obtain ⟨s4, vl2, vw2, ld, dn, md, fc, rfl, r1, r2⟩ := q
        have tk : (keptTo rows i).take kvs.length = keptTo rows i := List.take_of_length_le (by rw [akl.len]; exact Nat.le_refl _)
        have g := go kvs.length
        rw [tk] at r1 r2
        have gl1 := g.l1; have gl2 := g.l2; have gsm := g.sm; have gsm2 := g.sm2; have gs0 := g.sm0; have ginv := g.inv
        rw [tk] at gl1 gl2 gsm gsm2 gs0 ginv
        have nxt : keptTo rows (i + 1) = _ := keptTo_succ hrow
        unfold addRow at nxt
        generalize hS : (keptTo rows i).foldl elim (row, unitRow rows.length i) = S at r1 r2 gl1 gl2 gsm gsm2 gs0 ginv nxt
        have sH : Same H H2 := (s1.trans s3).trans s4
        have s14 : Same H1 H2 := s3.trans s4
        -- lead
        refine ⟨_, rfl, _, rfl, fo, vl2, S.1, rfl, hF.same sH, r1, fun H3 s5 => ?_⟩
        have s15 : Same H1 H3 := s14.trans s5
        have hk3 := s15 _ _ hk
        have hd3 := s15 _ _ hd
        have ak3 : Al (StepR H3) kvs (keptTo rows i) := ak.mono fun _ _ q => q.ts (Tk.of s15)
        refine ⟨_, rfl, rfl, _, rfl, ?_⟩
        cases hlead : leadOf S.1 with
        | none =>
          rw [hlead] at nxt
          refine iteT ?_
          refine ⟨_, rfl, .inl ⟨rfl, _, SqL.of hd3⟩, _, rfl, dp, dvs, _, rfl, rfl, hd3, Nat.lt_of_lt_of_le (show dvs.length < 1000 by have := ok.len; omega) (by decide), ?_⟩
          refine ⟨Same.mut (sH.trans s5) ndp0, kvs, dvs ++ [vw2], _, _, _, _, _, _, _, _, rfl, by rw [upd_ne kd]; exact hk3, upd_same, by rw [List.length_append]; show dvs.length + 1 ≤ i + 1; omega, ?_, ?_⟩
          · rw [nxt]
            exact ak3.mono fun _ _ q => q.ts (Tk.lst hd3)
          · rw [← hlen] at *
            exact (hu.ts (Tk.of s15)).ts (Tk.lst hd3)
        | some j =>
          rw [hlead] at nxt
          obtain ⟨hj, hne⟩ := leadOf_some hlead
          refine iteF ?_
          obtain ⟨dx, fs, h1, ff⟩ := hF.same (sH.trans s5)
          obtain ⟨v1, o1, o2⟩ := ff.one
          obtain ⟨la, lvs, lu, rfl, hla, hlu, rlu⟩ := row_at (K := K) (r1.ts (Tk.of s5)) (i := j) hj
          refine ⟨_, rfl, fo, dx, fs, rfl, h1, ff.quotient, _, rfl, fo, C, dx, fs, v1, rfl, h1, kit.cl, kit.no, o1, _, rfl, _, rfl, la, lvs, (j : Int), lu, rfl, rfl, hla, hlu, ?_⟩
          refine ⟨fo, _, _, 1, fn S.1 j, rfl, ⟨dx, fs, h1, ff⟩, o2, rlu, sm_one, gs0 _, hne, fun vf Hf sf rf => ?_⟩
          have einv : (1 : α) * Fl.inv (fn S.1 j) = Fl.inv (fn S.1 j) := by grind
          replace rf : rep Hf vf ((1 : α) * Fl.inv (fn S.1 j)) := rf
          rw [einv] at rf
          have s6 := s5.trans sf
          refine ⟨_, rfl, .inl ⟨rfl, _, SqL.of (sf _ _ hk3)⟩, _, rfl, ?_⟩
          refine ⟨_, rfl, _, rfl, _, rfl, fo, _, _, S.1, Fl.inv (fn S.1 j), rfl, hF.same (sH.trans s6), r1.ts (Tk.of s6), rf, by rw [gl1]; exact ok.wm, ginv j hne, gsm, fun v5 H5 s7 r5 => ?_⟩
          refine ⟨_, rfl, _, rfl, _, rfl, fo, _, _, S.2, Fl.inv (fn S.1 j), rfl, hF.same (sH.trans (s6.trans s7)), r2.ts (Tk.of (s6.trans s7)), rep_m1 s7 rf, by rw [gl2]; have := ok.len; omega, ginv j hne, gsm2, fun v6 H6 s8 r6 => ?_⟩
          refine ⟨(by show 3 ≤ sizeLine; decide), fun tp ntp => ?_⟩
          have s9 : Same H3 (upd H6 tp (.tup [.int (j : Nat), v5, v6])) := ((sf.trans s7).trans s8).trans (Same.new ntp)
          have hk9 := s9 _ _ hk3
          refine ⟨kp, kvs, _, rfl, rfl, hk9, Nat.lt_of_lt_of_le (show kvs.length < 1000 by rw [ak.len]; have := keptTo_len rows i; have := ok.len; omega) (by decide), ?_⟩
          have dk : dp ≠ kp := Ne.symm kd
          refine ⟨Same.mut ((sH.trans s5).trans s9) nkp, kvs ++ [.ref tp], dvs, _, _, _, _, _, _, _, _, rfl, upd_same, by rw [upd_ne dk]; exact s9 _ _ hd3, by omega, ?_, ?_⟩
          · rw [nxt]
            refine Al.snoc (ak3.mono fun _ _ q => (q.ts (Tk.of s9)).ts (Tk.lst hk9)) ⟨tp, v5, v6, rfl, Tk.lst hk9 _ _ upd_same, ?_, ?_⟩
            · exact (r5.ts (Tk.of (s8.trans (Same.new ntp)))).ts (Tk.lst hk9)
            · exact (r6.ts (Tk.new ntp)).ts (Tk.lst hk9)
          · exact (hu.ts (Tk.of (s15.trans s9))).ts (Tk.lst hk9)
    · obtain ⟨s1, kvs, dvs, p, r, l, ws, ld, dn, md, fc, rfl, hk, hd, hdl, ak, hu⟩ := q
      rw [hlen, keptTo_all] at ak
      refine ⟨_, rfl, _, rfl, (by show 2 ≤ sizeLine; decide), fun tp ntp => ?_⟩
      exact k tp kp dp _ (s1.trans (Same.new ntp)) upd_same ⟨kvs, Same.new ntp _ _ hk, ak.mono fun _ _ q => q.ts (Tk.new ntp)⟩
end
end W26

end

/-! ## WWts -/
section
set_option Elab.async false
set_option linter.all false
set_option maxRecDepth 100000
set_option maxHeartbeats 8000000
/-! Ranks, weights, sums, products. -/
namespace W26
open PySem L2 M26
open Rp
section
variable {P : Program} {w : World} {K : PySem.W.Frag} {mg : Str → Option Value} {base : Heap} {α : Type} [Rp α] {C : Addr}
/-! ### rank_of_rows, rows_unbound -/
abbrev s_rank_of_rows : Stmt := topS 13
theorem sc_rank_of_rows : FnScope ["field", "rows"] ["field", "rows"] (defScope s_rank_of_rows) :=
  ⟨rfl, rfl, rfl, by decide +kernel, rfl, by decide +kernel, by decide +kernel⟩
abbrev s_rows_unbound : Stmt := topS 14
theorem sc_rows_unbound : FnScope ["field", "rows"] ["field", "rows"] (defScope s_rows_unbound) :=
  ⟨rfl, rfl, rfl, by decide +kernel, rfl, by decide +kernel, by decide +kernel⟩
def spRank (α : Type) [Rp α] (C : Addr) : Sp := fun vs H Q _ => ∃ (fo : Addr) (vr : V) (rows : List (List α)) (wd B : Nat), vs = [.ref fo, vr] ∧ FO α C H fo ∧ Rws H vr rows ∧ RedOk rows wd B ∧
  ∀ H', Same H H' → Q (.int ((redKept rows).length : Nat)) H'
def spUnbound (α : Type) [Rp α] (C : Addr) : Sp := fun vs H Q _ => ∃ (fo : Addr) (vr : V) (rows : List (List α)) (wd B : Nat), vs = [.ref fo, vr] ∧ FO α C H fo ∧ Rws H vr rows ∧ RedOk rows wd B ∧
  ∀ H', Same H H' → Q (.bl (decide ((redKept rows).length = rows.length))) H'
theorem ok_rank_of_rows {f : Addr} {fd : FuncData} (F : Fun K "rank_of_rows" "rank_of_rows" s_rank_of_rows f fd) (T : Blt mg)
    (D_reduced_rows : Dfn P w K mg base CX0 5 "reduced_rows" ["field", "rows"] (spRed α C)) : FnOk P w K mg base CX0 6 f fd ["field", "rows"] (spRank α C) := by
  refine F.ok sc_rank_of_rows (fun vs H Q E h => ?_) (fun cdv A outer s H vs Q E hr h => ?_)
  · obtain ⟨fo, vr, rows, wd, B, rfl, _⟩ := h
    rfl
  · obtain ⟨fo, vr, rows, wd, B, rfl, hF, hR, ok, k⟩ := h
    refine ⟨_, (pss_one (ps_ret (pe_callB (call_lenK (K := K) rfl) (by rfl) T.len PySem.boot_len (pa_cons (pe_ix (ix_tupK (K := K) rfl) (pe_cd D_reduced_rows (hr.mono (by decide)) pass0 (pa_cons (pv 0) (pa_cons (pv 1) pa_nil))) pe_int (fun _ _ => rfl)) pa_nil)))), ?_⟩
    refine ⟨_, rfl, _, rfl, fo, vr, rows, wd, B, rfl, hF, hR, ok, fun t kp dp H' s ht hk => ?_⟩
    obtain ⟨kvs, hkv, al⟩ := hk
    refine ⟨t, _, 0, _, rfl, rfl, SqT.of ht, rfl, kp, kvs, rfl, .inl (SqL.of hkv), ?_⟩
    rw [al.len]
    exact k H' s
theorem ok_rows_unbound {f : Addr} {fd : FuncData} (F : Fun K "rows_unbound" "rows_unbound" s_rows_unbound f fd) (T : Blt mg)
    (D_rank_of_rows : Dfn P w K mg base CX0 6 "rank_of_rows" ["field", "rows"] (spRank α C)) : FnOk P w K mg base CX0 7 f fd ["field", "rows"] (spUnbound α C) := by
  refine F.ok sc_rows_unbound (fun vs H Q E h => ?_) (fun cdv A outer s H vs Q E hr h => ?_)
  · obtain ⟨fo, vr, rows, wd, B, rfl, _⟩ := h
    rfl
  · obtain ⟨fo, vr, rows, wd, B, rfl, hF, hR, ok, k⟩ := h
    refine ⟨_, (pss_one (ps_ret (pe_cmpR op_eq (pe_cd D_rank_of_rows (hr.mono (by decide)) pass0 (pa_cons (pv 0) (pa_cons (pv 1) pa_nil))) (pe_callB (call_lenK (K := K) rfl) (by rfl) T.len PySem.boot_len (pa_cons (pv 1) pa_nil)) (nomark _)))), ?_⟩
    refine ⟨_, rfl, _, rfl, fo, vr, rows, wd, B, rfl, hF, hR, ok, fun H' s => ?_⟩
    obtain ⟨rp, rvs, rfl, hrp, al⟩ := hR.same s
    refine ⟨_, rfl, rp, rvs, rfl, .inl (SqL.of hrp), rfl, ?_⟩
    have e : decide (V.int ((redKept rows).length : Nat) = V.int (rvs.length : Nat)) = decide ((redKept rows).length = rows.length) := by
      rw [al.len]
      by_cases h : (redKept rows).length = rows.length
      · rw [decide_eq_true h, h, decide_eq_true rfl]
      · rw [decide_eq_false h]
        exact decide_eq_false fun z => h (by injection z with z; omega)
    have q := k H' s
    rw [← e] at q
    exact q
/-! ### weights_for -/
abbrev s_weights_for : Stmt := topS 15
theorem sc_weights_for : FnScope ["field", "rows", "row", "left_row", "weights", "lead", "done", "made", "factor"] ["field", "rows", "row"] (defScope s_weights_for) :=
  ⟨rfl, rfl, rfl, by decide +kernel, rfl, by decide +kernel, by decide +kernel⟩
def spWts (α : Type) [Rp α] (C : Addr) : Sp := fun vs H Q _ => ∃ (fo : Addr) (vr vx : V) (rows : List (List α)) (row : List α) (wd B M : Nat), vs = [.ref fo, vr, vx] ∧ FO α C H fo ∧ Rws H vr rows ∧ RowS H vx row ∧ RedOk rows wd B ∧ row.length = wd ∧
  (∃ D, Cf D M row) ∧ B ≤ M ∧ M ≤ 64 ∧ (weightsFor rows row = none → ∀ H', Same H H' → Q .non H') ∧ ∀ ws, weightsFor rows row = some ws → ∀ v H', Same H H' → Row H' v ws → Q v H'
theorem ok_weights_for {f : Addr} {fd : FuncData} (F : Fun K "weights_for" "weights_for" s_weights_for f fd) (T : Blt mg) (kit : FKit P w K mg base α C)
    (D_row_plus : Dfn P w K mg base CX0 4 "row_plus" ["field", "row", "weight", "other"] (spRowPlus α C)) (D_zero_row : Dfn P w K mg base CX0 1 "zero_row" ["field", "width"] (spZero α C))
    (D_lead_of : Dfn P w K mg base CX0 1 "lead_of" ["field", "row"] (spLead α C)) (D_reduced_rows : Dfn P w K mg base CX0 5 "reduced_rows" ["field", "rows"] (spRed α C)) :
    FnOk P w K mg base CX0 6 f fd ["field", "rows", "row"] (spWts α C) := by
  refine F.ok sc_weights_for (fun vs H Q E h => ?_) (fun cdv A outer s H vs Q E hr h => ?_)
  · obtain ⟨fo, vr, vx, rows, row, wd, B, M, rfl, _⟩ := h
    rfl
  · obtain ⟨fo, vr, vx, rows, row, wd, B, M, rfl, hF, hR, hX, ok, hw, ⟨D0, hD0⟩, hBM, hM, kn, ks⟩ := h
    refine ⟨_, (pss_cons (ps_set (i := 3) sc_weights_for.nd rfl (by first | exact Or.inl rfl | exact Or.inr rfl) (pe_callTy (call_tupRow (α := α)) (by rfl) T.tuple (by decide +kernel) (pa_cons (pv 2) pa_nil)))
      (pss_cons (ps_set (i := 4) sc_weights_for.nd rfl (by first | exact Or.inl rfl | exact Or.inr rfl) (pe_cd D_zero_row (hr.mono (by decide)) pass0 (pa_cons (pv 0) (pa_cons (pe_callB (call_lenK (K := K) rfl) (by rfl) T.len PySem.boot_len (pa_cons (pv 1) pa_nil)) pa_nil))))
      (pss_cons (ps_for PassesOwn.never rfl (pi_lstK (K := K) rfl (pe_ix (ix_tupK (K := K) rfl) (pe_cd D_reduced_rows (hr.mono (by decide)) pass0 (pa_cons (pv 0) (pa_cons (pv 1) pa_nil))) pe_int (fun _ _ => rfl))) (pg_tup rfl (pgs_cons (pg_name (i := 5) sc_weights_for.nd rfl (by first | exact Or.inl rfl | exact Or.inr rfl)) (pgs_cons (pg_name (i := 6) sc_weights_for.nd rfl (by first | exact Or.inl rfl | exact Or.inr rfl)) (pgs_cons (pg_name (i := 7) sc_weights_for.nd rfl (by first | exact Or.inl rfl | exact Or.inr rfl)) pgs_nil))))
      (pss_cons (ps_set (i := 8) sc_weights_for.nd rfl (by first | exact Or.inl rfl | exact Or.inr rfl) (pe_ix (ix_tupK (K := K) rfl) (pv 3) (pv 5) (fun _ _ => rfl)))
      (pss_cons (ps_set (i := 3) sc_weights_for.nd rfl (by first | exact Or.inl rfl | exact Or.inr rfl) (pe_cd D_row_plus (hr.mono (by decide)) pass0 (pa_cons (pv 0) (pa_cons (pv 3) (pa_cons (pe_md (pv 0) kit.cl kit.less (hr.mono (by decide)) pass0 (pa_cons (pe_fldK (K := K) rfl (pv 0) rfl) (pa_cons (pv 8) pa_nil))) (pa_cons (pv 6) pa_nil))))))
      (pss_one (ps_set (i := 4) sc_weights_for.nd rfl (by first | exact Or.inl rfl | exact Or.inr rfl) (pe_cd D_row_plus (hr.mono (by decide)) pass0 (pa_cons (pv 0) (pa_cons (pv 4) (pa_cons (pv 8) (pa_cons (pv 7) pa_nil))))))))))
      (pss_cons (ps_if (pt_cmpR op_notN (pe_cd D_lead_of (hr.mono (by decide)) pass0 (pa_cons (pv 0) (pa_cons (pv 3) pa_nil))) pe_non (nomark _))
      (pss_one (ps_ret pe_non))
      pss_nil)
      (pss_one (ps_ret (pv 4))))))), ?_⟩
    refine ⟨_, rfl, _, row, rfl, hX, fun vl Hl sl rl => ?_⟩
    obtain ⟨rp, rvs, e1, hrp, al⟩ := hR.same sl
    have hlen := al.len
    subst e1
    refine ⟨_, rfl, _, rfl, rp, rvs, rfl, .inl (SqL.of hrp), fo, rvs.length, rfl, hF.same sl, by have := ok.len; omega, fun vz Hz sz rz => ?_⟩
    rw [hlen] at rz
    refine ⟨_, rfl, _, rfl, fo, _, rows, wd, B, rfl, hF.same (sl.trans sz), hR.same (sl.trans sz), ok, fun t kp dp Hr sr ht hk => ?_⟩
    obtain ⟨kvs, hkv, ak⟩ := hk
    have s0 : Same H Hr := (sl.trans sz).trans sr
    refine ⟨t, _, 0, _, rfl, rfl, SqT.of ht, rfl, kp, rfl, ⟨_, SqL.of hkv⟩, ?_⟩
    have go := fun j => elimW_going ok.wid ok.cf ok.hB ok.len hw hD0 hBM hM j
    have kok := (redKept_ok ok.wid).1
    refine for_list (K := K) (a := kp) (xs := kvs) (fun j σ H2 => Same Hr H2 ∧ ∃ (vl vw : V) (ld dn md fc : Option V), σ = [some (.ref fo), some (.ref rp), some vx, some vl, some vw, ld, dn, md, fc] ∧
          Row H2 vl (((redKept rows).take j).foldl elimW (row, zeroRow rows.length)).1 ∧ Row H2 vw (((redKept rows).take j).foldl elimW (row, zeroRow rows.length)).2)
        ⟨Same.refl Hr, vl, vz, none, none, none, none, rfl, by rw [List.take_zero]; exact rl.ts (Tk.of (sz.trans sr)), by rw [List.take_zero]; exact rz.ts (Tk.of sr)⟩ (fun j σ H2 _ q => SqL.of (q.1 _ _ hkv)) (fun j x2 σ H2 hx2 q => ?_) (fun σ H2 q => ?_)
    · obtain ⟨s4, vl2, vw2, ld, dn, md, fc, rfl, r1, r2⟩ := q
      obtain ⟨stp, hstp, rst⟩ := ak.get hx2
      obtain ⟨sa, v1, v2, rfl, hsa, rd, rm⟩ := rst.ts (Tk.of s4)
      have g := go j
      obtain ⟨p1, _, p3⟩ := g.next stp hstp
      obtain ⟨hl1, hl2, hl3⟩ := kok.len stp (List.mem_of_getElem? hstp)
      generalize hS : ((redKept rows).take j).foldl elimW (row, zeroRow rows.length) = S at r1 r2 g p1 p3
      have gl1 : S.1.length = wd := by rw [← hS]; exact (go j).l1
      have gl2 : S.2.length = rows.length := by rw [← hS]; exact (go j).l2
      have gs0 : ∀ i, Fd.Sm (fn S.1 i) := by rw [← hS]; exact (go j).sm0
      have sH : Same H H2 := s0.trans s4
      obtain ⟨la, lvs, lu, rfl, hla, hlu, rlu⟩ := row_at (K := K) r1 (i := stp.1) (by omega)
      refine ⟨sa, _, rfl, SqT.of hsa, rfl, _, _, rfl, _, _, rfl, _, _, rfl, rfl, ?_⟩
      -- factor, left_row
      refine ⟨_, rfl, _, rfl, la, lvs, (stp.1 : Int), lu, rfl, rfl, hla, hlu, ?_⟩
      obtain ⟨dx, fs, h1, ff⟩ := hF.same sH
      obtain ⟨v0, z1, z2⟩ := ff.zero
      refine ⟨_, rfl, _, rfl, _, rfl, fo, dx, fs, rfl, h1, ff.less, _, rfl, fo, C, dx, fs, v0, rfl, h1, kit.cl, kit.nz, z1, _, rfl, ?_⟩
      refine ⟨fo, _, _, 0, fn S.1 stp.1, rfl, ⟨dx, fs, h1, ff⟩, z2, rlu, sm_zero, gs0 _, trivial, fun vf Hf sf rf => ?_⟩
      refine ⟨_, rfl, fo, _, _, _, S.1, stp.2.1, 0 - fn S.1 stp.1, rfl, (hF.same sH).same sf, r1.ts (Tk.of sf), rf, (rd.ts (Tk.of sf)).s, by omega, by rw [hl2]; exact ok.wm, p1, fun v3 H3 s5 r3 => ?_⟩
      refine ⟨_, rfl, _, rfl, _, rfl, _, rfl, fo, _, _, _, S.2, stp.2.2, fn S.1 stp.1, rfl, (hF.same sH).same (sf.trans s5), r2.ts (Tk.of (sf.trans s5)), rep_m1 (sf.trans s5) rlu, (rm.ts (Tk.of (sf.trans s5))).s, by omega, by rw [hl3]; have := ok.len; omega, p3, fun v4 H4 s6 r4 => ?_⟩
      have e := foldl_take_succ (f := elimW) (b := (row, zeroRow rows.length)) hstp
      rw [hS] at e
      refine ⟨s4.trans ((sf.trans s5).trans s6), _, _, _, _, _, _, rfl, ?_, ?_⟩
      · rw [e]; exact r3.ts (Tk.of s6)
      · rw [e]; exact r4
    · obtain ⟨s4, vl2, vw2, ld, dn, md, fc, rfl, r1, r2⟩ := q
      have tk : (redKept rows).take kvs.length = redKept rows := List.take_of_length_le (by rw [ak.len]; exact Nat.le_refl _)
      rw [tk] at r1 r2
      unfold weightsFor at kn ks
      have sH : Same H H2 := s0.trans s4
      generalize (redKept rows).foldl elimW (row, zeroRow rows.length) = S at r1 r2 kn ks
      refine ⟨_, rfl, _, rfl, fo, vl2, S.1, rfl, hF.same sH, r1, fun H3 s5 => ?_⟩
      refine ⟨rfl, _, rfl, ?_⟩
      cases hlead : leadOf S.1 with
      | none =>
        rw [hlead] at ks
        refine iteF ?_
        exact ⟨_, rfl, ks _ rfl _ _ (sH.trans s5) (r2.ts (Tk.of s5))⟩
      | some j =>
        rw [hlead] at kn
        refine iteT ?_
        exact kn rfl _ (sH.trans s5)
/-! ### weighted_sum -/
abbrev s_weighted_sum : Stmt := topS 16
theorem sc_weighted_sum : FnScope ["field", "weights", "rows", "width", "total", "weight", "row"] ["field", "weights", "rows", "width"] (defScope s_weighted_sum) :=
  ⟨rfl, rfl, rfl, by decide +kernel, rfl, by decide +kernel, by decide +kernel⟩
/-- a sum's promise -/
def spSum (α : Type) [Rp α] (C : Addr) : Sp := fun vs H Q _ => ∃ (fo : Addr) (v1 v2 : V) (ws : List α) (rows : List (List α)) (wd : Nat), vs = [.ref fo, v1, v2, .int (wd : Nat)] ∧ FO α C H fo ∧ Row H v1 ws ∧ Rws H v2 rows ∧ ws.length = rows.length ∧ wd ≤ 1000 ∧
  (∀ r ∈ rows, r.length = wd) ∧ SumOk ws rows wd ∧ ∀ v H', Same H H' → Row H' v (lawSum ws rows wd) → Q v H'
theorem sumTo_row {ws : List α} {rows : List (List α)} {wd k : Nat} {r : List α} (hr : rows[k]? = some r) (hw : r.length = wd) : rowPlus (sumTo ws rows wd k) (fn ws k) r = sumTo ws rows wd (k + 1) := by
  have hl : (sumTo ws rows wd k).length = r.length := by rw [sumTo_len, hw]
  refine fn_ext (by rw [rowPlus_len hl, sumTo_len, sumTo_len]) fun i hi => ?_
  rw [rowPlus_len hl, sumTo_len] at hi
  rw [fn_rowPlus hl, sumTo_succ, fn_map_range, if_pos hi]
  have e : rows.getD k [] = r := by rw [List.getD_eq_getElem?_getD, hr]; rfl
  rw [e]
theorem mem_fn {xs : List α} {x : α} (h : x ∈ xs) : ∃ i, x = fn xs i := by
  obtain ⟨i, hi, e⟩ := List.getElem_of_mem h
  exact ⟨i, by rw [fn_lt hi, e]⟩
theorem ok_weighted_sum {f : Addr} {fd : FuncData} (F : Fun K "weighted_sum" "weighted_sum" s_weighted_sum f fd) (T : Blt mg)
    (D_row_plus : Dfn P w K mg base CX0 4 "row_plus" ["field", "row", "weight", "other"] (spRowPlus α C)) (D_zero_row : Dfn P w K mg base CX0 1 "zero_row" ["field", "width"] (spZero α C)) :
    FnOk P w K mg base CX0 5 f fd ["field", "weights", "rows", "width"] (spSum α C) := by
  refine F.ok sc_weighted_sum (fun vs H Q E h => ?_) (fun cdv A outer s H vs Q E hr h => ?_)
  · obtain ⟨fo, v1, v2, ws, rows, wd, rfl, _⟩ := h
    rfl
  · obtain ⟨fo, v1, v2, ws, rows, wd, rfl, hF, ⟨wa, wvs, rfl, hwa, aw⟩, ⟨rp, rvs, rfl, hrp, ar⟩, hl, hwd, hw, ok, k⟩ := h
    refine ⟨_, (pss_cons (ps_set (i := 4) sc_weighted_sum.nd rfl (by first | exact Or.inl rfl | exact Or.inr rfl) (pe_cd D_zero_row (hr.mono (by decide)) pass0 (pa_cons (pv 0) (pa_cons (pv 3) pa_nil))))
      (pss_cons (ps_for PassesOwn.never rfl (pi_zipM rfl T.zip (pa_cons (pv 1) (pa_cons (pv 2) pa_nil))) (pg_tup rfl (pgs_cons (pg_name (i := 5) sc_weighted_sum.nd rfl (by first | exact Or.inl rfl | exact Or.inr rfl)) (pgs_cons (pg_name (i := 6) sc_weighted_sum.nd rfl (by first | exact Or.inl rfl | exact Or.inr rfl)) pgs_nil)))
      (pss_one (ps_set (i := 4) sc_weighted_sum.nd rfl (by first | exact Or.inl rfl | exact Or.inr rfl) (pe_cd D_row_plus (hr.mono (by decide)) pass0 (pa_cons (pv 0) (pa_cons (pv 4) (pa_cons (pv 5) (pa_cons (pv 6) pa_nil))))))))
      (pss_one (ps_ret (pv 4))))), ?_⟩
    refine ⟨_, rfl, _, rfl, fo, wd, rfl, hF, hwd, fun vz Hz sz rz => ?_⟩
    refine ⟨_, rfl, _, rfl, wa, rp, wvs, rvs, rfl, .inr ⟨SqT.of (sz _ _ hwa), SqL.of (sz _ _ hrp), ?_⟩⟩
    have mn : rows.length = min wvs.length rvs.length := by rw [aw.len, ar.len]; omega
    refine for_it (walk_zipM mn) (fun i σ H1 => Same H H1 ∧ ∃ (vt : V) (a b : Option V), σ = [some (.ref fo), some (.ref wa), some (.ref rp), some (.int (wd : Nat)), some vt, a, b] ∧ Row H1 vt (sumTo ws rows wd i))
      ⟨sz, vz, none, none, rfl, rz⟩ (fun i σ H1 _ q => ⟨SqT.of (q.1 _ _ hwa), SqL.of (q.1 _ _ hrp)⟩) (fun i x σ H1 H' hi q y => ?_) (fun σ H1 q => ?_)
    · obtain ⟨s1, vt, a, b, rfl, rt⟩ := q
      obtain ⟨n, x1, y1, rfl, hn, rfl, hx1, hy1⟩ := y
      obtain ⟨W1, hW1, rW⟩ := aw.get hx1
      obtain ⟨R1, hR1, rR⟩ := ar.get hy1
      have s2 : Same H (upd H1 n (.tup [x1, y1])) := s1.trans (Same.new hn)
      have hRl := hw R1 (List.mem_of_getElem? hR1)
      have eW : W1 = fn ws i := by
        obtain ⟨h5, h6⟩ := List.getElem?_eq_some_iff.mp hW1
        rw [fn_lt h5, h6]
      have eR : rows.getD i [] = R1 := by rw [List.getD_eq_getElem?_getD, hR1]; rfl
      subst eW
      refine ⟨n, _, rfl, SqT.of upd_same, rfl, _, _, rfl, _, _, rfl, rfl, ?_⟩
      refine ⟨_, rfl, _, rfl, _, rfl, _, rfl, fo, vt, x1, y1, sumTo ws rows wd i, R1, fn ws i, rfl, hF.same s2, rt.ts (Tk.new hn), rep_m1 s2 rW, rR.same s2, by rw [sumTo_len, hRl], by omega, ?_, fun v3 H3 s3 r3 => ?_⟩
      · refine ⟨fun z hz => ?_, ok.hw i, fun z hz => ?_, fun z hz => ?_⟩
        · obtain ⟨j, rfl⟩ := mem_fn hz
          exact ok.ht i j (by omega)
        · obtain ⟨j, rfl⟩ := mem_fn hz
          have := ok.hr i j hi
          rw [eR] at this
          exact this
        · obtain ⟨j, rfl⟩ := mem_fn hz
          have := ok.hp i j hi
          rw [eR] at this
          exact this
      · rw [sumTo_row hR1 hRl] at r3
        exact ⟨s2.trans s3, v3, _, _, rfl, r3⟩
    · obtain ⟨s1, vt, a, b, rfl, rt⟩ := q
      exact ⟨_, rfl, k _ _ s1 rt⟩
/-! ### rows_product -/
abbrev s_rows_product : Stmt := topS 17
theorem sc_rows_product : FnScope ["field", "rows", "others", "width", "row"] ["field", "rows", "others"] (defScope s_rows_product) :=
  ⟨rfl, rfl, rfl, by decide +kernel, rfl, by decide +kernel, by decide +kernel⟩
def spProd (α : Type) [Rp α] (C : Addr) : Sp := fun vs H Q _ => ∃ (fo : Addr) (v1 v2 : V) (left rows : List (List α)) (wd : Nat), vs = [.ref fo, v1, v2] ∧ FO α C H fo ∧ RwsT H v1 left ∧ Rws H v2 rows ∧ rows ≠ [] ∧ left.length ≤ 1000 ∧ wd ≤ 1000 ∧ (∀ r ∈ rows, r.length = wd) ∧
  (∀ r ∈ left, r.length = rows.length ∧ SumOk r rows wd) ∧ ∀ v H', Same H H' → RwsU H' v (left.map fun r => lawSum r rows wd) → Q v H'
theorem ok_rows_product {f : Addr} {fd : FuncData} (F : Fun K "rows_product" "rows_product" s_rows_product f fd) (T : Blt mg)
    (D_weighted_sum : Dfn P w K mg base CX0 5 "weighted_sum" ["field", "weights", "rows", "width"] (spSum α C)) : FnOk P w K mg base CX0 6 f fd ["field", "rows", "others"] (spProd α C) := by
  refine F.ok sc_rows_product (fun vs H Q E h => ?_) (fun cdv A outer s H vs Q E hr h => ?_)
  · obtain ⟨fo, v1, v2, left, rows, wd, rfl, _⟩ := h
    rfl
  · obtain ⟨fo, v1, v2, left, rows, wd, rfl, hF, ⟨la, lvs, rfl, hla, al⟩, ⟨rp, rvs, rfl, hrp, ar⟩, hne, hll, hwd, hw, hok, k⟩ := h
    refine ⟨_, (pss_cons (ps_set (i := 3) sc_rows_product.nd rfl (by first | exact Or.inl rfl | exact Or.inr rfl) (pe_ifExp (pt_truth (pv 2) (by intro _; rfl)) (pe_callB (call_lenK (K := K) rfl) (by rfl) T.len PySem.boot_len (pa_cons (pe_ix (ix_lstK (K := K) rfl) (pv 2) pe_int (fun _ _ => rfl)) pa_nil)) pe_int))
      (pss_one (ps_ret (pe_callTy (call_tupK (K := K) rfl) (by rfl) T.tuple (by decide +kernel) (pa_cons (pe_lc (own := [("row", 4)]) (g := (gName 4)) (tt := tYes) rfl sc_rows_product.nd (pi_lstK (K := K) rfl (pv 1)) (blkOk_by (own := [("row", 4)]) (N := ["field", "rows", "others", "width", "row"]) (sc := (defScope s_rows_product)) (by decide +kernel)) (fun _ _ _ _ _ => pg_name (i := 4) sc_rows_product.nd rfl (by first | exact Or.inl rfl | exact Or.inr rfl)) (fun _ _ _ _ _ => pts_nil) (fun _ _ _ _ _ => (pe_cd D_weighted_sum (hr.mono (by decide)) pass0 (pa_cons (pv 0) (pa_cons (pv 4) (pa_cons (pv 2) (pa_cons (pv 3) pa_nil))))))) pa_nil))))), ?_⟩
    have rne : rvs ≠ [] := fun z => hne (ar.nil_iff.mp z)
    have emp : (!rvs.isEmpty) = true := by
      cases rvs with
      | nil => exact absurd rfl rne
      | cons a l => rfl
    obtain ⟨r0, hr0⟩ : ∃ r0, rvs[0]? = some r0 := by
      cases rvs with
      | nil => exact absurd rfl rne
      | cons a l => exact ⟨a, rfl⟩
    obtain ⟨R0, hR0, ⟨ra, ras, rfl, hra, aa⟩⟩ := ar.get hr0
    refine ⟨_, rfl, _, .inl ⟨rvs, SqL.of hrp, rfl⟩, ?_⟩
    rw [emp]
    refine iteT ?_
    refine ⟨_, rfl, rp, rvs, 0, _, rfl, rfl, SqL.of hrp, atI_nat (j := 0) hr0, ra, ras, rfl, seq_of hra, ?_⟩
    have ew : (ras.length : Int) = (wd : Int) := by rw [aa.len, hw R0 (List.mem_of_getElem? hR0)]
    refine ⟨_, rfl, la, rfl, ⟨_, SqL.of hla⟩, fun D hD => ?_⟩
    refine lc_dat (walk_list (xs := lvs)) (left.map fun r => lawSum r rows wd) Row (by rw [List.length_map, al.len]) (by rw [al.len]; exact hll) hD row_m1 row_m2 (fun H1 s => SqL.of (s _ _ hla)) (fun i x H1 H' e hi he s _ y Nx kk => ?_)
      (fun H1 acc s hacc al => ⟨D, acc, rfl, .inl ⟨SqL.of hacc, fun l hl => k _ _ (s.trans (Same.new hl)) ⟨l, acc, rfl, upd_same, al.mono fun _ _ r => r.ts (Tk.new hl)⟩⟩⟩)
    obtain ⟨rfl, hx⟩ := y
    obtain ⟨L1, hL1, rL⟩ := al.get hx
    have eq : e = lawSum L1 rows wd := by
      rw [List.getElem?_map, hL1] at he
      exact (Option.some.inj he).symm
    obtain ⟨o1, o2⟩ := hok L1 (List.mem_of_getElem? hL1)
    refine ⟨rfl, ?_⟩
    refine ⟨_, rfl, _, rfl, _, rfl, _, rfl, fo, x, _, L1, rows, wd, ?_, hF.same s, rL.ts (Tk.of s), ⟨rp, rvs, rfl, s _ _ hrp, ar.mono fun _ _ r => r.same s⟩, o1, hwd, hw, o2, fun v3 H3 s3 r3 => kk v3 H3 (by rw [eq]; exact r3) s3⟩
    show [V.ref fo, x, V.ref rp, V.int (ras.length : Int)] = _
    rw [ew]
end
end W26

end

/-! ## WExc -/
section
set_option Elab.async false
set_option linter.all false
set_option maxRecDepth 100000
set_option maxHeartbeats 8000000
/-! The error without attributes, and undoing_rows. -/
namespace W26
open PySem L2 M26
open PyProof.Rows (AllBare)
open Rp
/-! ### S.__init__(self, ..), S an own class over ValueError -/
/-- what is asked of the base class -/
structure SupC (K : PySem.W.Frag) (S : Addr) : Prop where
  ga : PySem.W.specialIn K (.ref S) "__getattribute__" = some (some (.builtin "type.__getattribute__"))
  rd : PySem.W.readsIn K S (.type "type") = true
  fi : PySem.W.findCls K (.ref S) (.type "type") "__init__" = some (.val (.builtin "ValueError.__init__"))
section
variable {X : Cx} {o e : Expr} {es : List Expr} {to te : TE} {ta : TA} {f : Str} {p p' p1 p2 pos : Pos}
theorem pe_supinit {pl : Sem Bool} {x : Str} {S : Addr} (hg : Gl X x) (hm : X.mg x = some (.ref S)) (T : SupC X.K S) (ha : PA X (e :: es) ta) (hdb : (x == ("__debug__" : Str)) = false := by decide)
    (hc : eval (.Call (.Attribute (.Name x p1) "__init__" p2) (e :: es) [] pos) X.env = (do
      let ov ← eval (.Name x p1) X.env
      standAt p2.atName
      let (f, first) ← holding [ov] (getMethod ov "__init__" pl)
      callWith pos f first (backTo pos (starEach (e :: es) X.env)) (backToKw pos (keywordEach [] X.env))) := by rfl)
    (he : starEach (e :: es) X.env = (false, eval e X.env) :: starEach es X.env := by rfl) (hpl : (backTo pos (starEach es X.env)).any (·.1) = false := by rfl) :
    PE X (.Call (.Attribute (.Name x p1) "__init__" p2) (e :: es) [] pos) (tVeI X.K ta) := by
  refine ⟨fun pins s σ H Q I h => ?_⟩
  refine PySem.W.methodCall_KW (ld_glob I hg hm ?_ hdb) hc
  refine PySem.W.method_cls I.kIn T.ga (PySem.W.cls_value I.kIn T.rd T.fi (by decide +kernel) ?_)
  show wpAny _ _ (callWith pos (Value.builtin "ValueError.__init__") [] (backTo pos (starEach (e :: es) X.env)) []) _ _ _
  refine PyProof.Rows.callWith_method1 (thn (ha.run pos pins _ σ H _ (I.tok _) h) fun us s1 ⟨vs, H1, I1, r1, a, C, ws, ev, hl, T, ea, q⟩ => ?_) he hpl
  subst ev
  cases r1 with
  | @cons _ u0 _ ur ra rw' =>
    obtain rfl : u0 = Value.ref a := ra
    have hlen : ur.length ≤ sizeLine := by
      rw [← Paired.length rw', sizeLine_eq]
      omega
    exact oinit_ok T I1 ea hlen fun s' J => ⟨.non, H1, J, rfl, q⟩
/-- the end of C(), no attribute given: the exception is let go -/
theorem mk_bare {pins : List (Addr × Obj)} {σ : St} {H1 H2 : Hp} {hp hp2 h2 : Heap} {g1 g2 : Array GenState} {d1 d2 : Drawn} {t1 t2 : Nat} {os1 os2 : OsState} {a C : Addr} (I1 : Inv X pins σ H1 ⟨hp, g1, d1, t1, os1⟩)
    (ha : hp.objs.size ≤ a) (k : ∀ b o, hp.get? b = some o → hp2.get? b = some o) (un : Un (frs X.stack) [] (upd H1 a (exo a C none)) H2 hp2 h2) (hok : HOk X.prog X.w H2 h2) (ho : os2 = os1) (hb : AllBare g2)
    (ea : H2 a = some (exo a C none)) :
    ∃ (t0 : Addr) (G : Heap), Inv X pins σ (del H2 a) ⟨G, g2, d2, t2, os2⟩ ∧ (∀ b o, G.get? b = some o → h2.get? b = some o) ∧ G.get? a = none ∧
      h2.get? a = some ({ cls := .ref C, dict := none, data := .fields #[.ref t0, .none, .none, .none, .bool false, .none] } : Obj) ∧ (del H2 a) a = none := by
  obtain ⟨t0, hoe⟩ := exo_at hok ea
  have hn : H1 a = none := I1.hok.fresh ha
  obtain ⟨G, g1', g2'⟩ := restrict h2 fun b => decide (b ≠ a)
  have gk : ∀ b, b ≠ a → G.get? b = h2.get? b := fun b hb => g1' b (decide_eq_true hb)
  have ge : G.get? a = none := g2' a (by simp)
  have nha : ∀ {b : Addr} {o : Obj}, hp.get? b = some o → b ≠ a := fun {b o} z => Nat.ne_of_lt (Nat.lt_of_lt_of_le (Heap.lt_size z) ha)
  have up : ∀ {b : Addr}, b ≠ a → H1 b = none → upd H1 a (exo a C none) b = none := fun {b} hb n => by rw [upd_ne hb]; exact n
  have U : Un (frs X.stack) [] H1 (del H2 a) hp G := {
    keep := fun b o z n hf hx => by
      rw [gk b (nha z)]
      exact un.keep b o (k b o z) (up (nha z) n) hf hx
    slot := fun b o z n hf hx => by
      rw [gk b (nha z)]
      exact un.slot b o (k b o z) (up (nha z) n) hf hx
    free := fun b o z n hx => by
      rw [del_ne (nha z)]
      exact un.free b o (k b o z) (up (nha z) n) hx
    there := fun b o z hx => by
      rw [gk b (nha z)]
      exact un.there b o (k b o z) hx
    tups := fun b xs z => by
      rw [del_ne (ne_of_none z hn)]
      exact un.tups b xs (by rw [upd_ne (ne_of_none z hn)]; exact z)
    frzs := fun b o v z => by
      rw [del_ne (ne_of_none z hn)]
      exact un.frzs b o v (by rw [upd_ne (ne_of_none z hn)]; exact z)
    tbls := fun b ps z => by
      rw [del_ne (ne_of_none z hn)]
      exact un.tbls b ps (by rw [upd_ne (ne_of_none z hn)]; exact z) }
  have hok3 : HOk X.prog X.w (del H2 a) G := fun b o z => by
    have hba : b ≠ a := fun e => by
      rw [e, del_same] at z
      cases z
    rw [del_ne hba] at z
    have noa : ∀ {c : Addr}, H2 c = some (.own b) → c ≠ a := fun {c} hc => at_ne ea hc exo_own
    exact (hok b o z).stay (fun c v hc y => by
        have hca : c ≠ a := by
          rcases hc with hc | hc
          · rw [hc]
            exact hba
          · exact noa hc
        rw [gk c hca]
        exact y)
      (fun c hc => by rw [del_ne (noa hc)]; exact hc) (fun c xs hc => by rw [del_ne (at_ne ea hc exo_tup)]; exact hc)
  have J : Inv X pins σ (del H2 a) ⟨G, g2, d2, t2, os2⟩ := I1.call' (ch := []) ho U hok3 hb (fun b z => absurd z (by simp))
  refine ⟨t0, G, J, fun b o z => ?_, ge, hoe, del_same⟩
  by_cases hba : b = a
  · rw [hba, ge] at z
    cases z
  · exact (gk b hba).symm.trans z
/-- C(), C's own __init__ keeping sp and giving no attribute -/
def tMkB (C : Addr) (sp : Sp) (dvs : List V) : St → Hp → XK → Prop := fun _ H1 Q => ∀ a, H1 a = none → sp (.ref a :: dvs) (upd H1 a (exo a C none))
  (fun v H2 => v = .non ∧ H2 a = some (exo a C none) ∧ Q (.ref C) none (del H2 a)) (fun _ _ _ => False)
theorem pmk_bare {CX : CXT} {x : Str} {C fI : Addr} {k : Nat} {fd : FuncData} {ps : List Str} {sp : Sp} {ds : List Value} {dvs : List V} (T : OexC X.K C) (iC : PySem.W.findIn X.K (.ref C) "__init__" = some (some (.ref fI))) (tI : PySem.W.typeIn X.K (.ref fI) = some (.type "function"))
    (F1 : FnOk X.prog X.w X.K X.mg X.base CX k fI fd ps sp) (hr : Room (k + 1) X.A) (hb : Binds X.K fd ps ds) (hd : Vals dvs ds) (hx : Passes CX X (fun _ _ _ => False)) (hg : Gl X x) (hm : X.mg x = some (.ref C))
    (hdb : (x == ("__debug__" : Str)) = false := by decide) :
    L2N.PMk X (.Call (.Name x p) [] [] pos) (tMkB C sp dvs) := by
  intro pins s σ H Q I h
  obtain ⟨nm, q, N, bs, bm, sn, sub, ab, col, dd, k0, k1, k2, k3, k5, hC, hbm⟩ := T.cls
  refine wpAny_Call_Name_kw (ld_glob I hg hm ?_ hdb)
  refine PySem.W.callWith_K0 I.kIn T.kC ?_
  show wpAny _ _ (call (.ref C) []) _ _ _
  obtain ⟨hp, g, dr, tk, os⟩ := s
  have hsz : hp.objs.size ≤ hp.objs.size + 1 := Nat.le_succ _
  have hn : H (hp.objs.size + 1) = none := I.hok.fresh hsz
  have hq := h (hp.objs.size + 1) hn
  have kk : ∀ b o, hp.get? b = some o → ((hp.push (PySem.W.kdv_tup [])).push (PySem.HandSPX.excO C hp.objs.size)).get? b = some o := fun b o e => Heap.get?_push_of_some _ (Heap.get?_push_of_some _ e)
  have hget : ((hp.push (PySem.W.kdv_tup [])).push (PySem.HandSPX.excO C hp.objs.size)).get? (hp.objs.size + 1) = some (PySem.HandSPX.excO C hp.objs.size) := by heap_get
  have I2 : Inv X pins σ (upd H (hp.objs.size + 1) (exo (hp.objs.size + 1) C none)) ⟨(hp.push (PySem.W.kdv_tup [])).push (PySem.HandSPX.excO C hp.objs.size), g, dr, tk, os⟩ :=
    I.laid (t' := tk) (a := hp.objs.size + 1) (o := exo (hp.objs.size + 1) C none) (h' := (hp.push (PySem.W.kdv_tup [])).push (PySem.HandSPX.excO C hp.objs.size)) kk hsz (exo_ok hget)
  have r2 : Vals (V.ref (hp.objs.size + 1) :: dvs) (Value.ref (hp.objs.size + 1) :: ds) := .cons rfl hd
  have hl : (Value.ref (hp.objs.size + 1) :: ([] : List Value) ++ ds).length = ps.length := by
    have e := r2.length
    rw [F1.len _ _ _ _ hq] at e
    exact e.symm
  have hus : ([] : List Value).length ≤ sizeLine := Nat.zero_le _
  refine wpAny_call (PySem.HandSPX.call_own F.excBase_ValueError (fun Y => PySem.HandSPX.refsVE_contains Y bm hbm) (I.kIn _ _ hC) (PySem.W.looks_findIn I.kIn iC) (fun self => PySem.W.bind_fn I.kIn self tI) hus
    (codeAny_mono (F1.run _ X.stack _ _ ⟨[Value.ref (hp.objs.size + 1)], []⟩ (Value.ref (hp.objs.size + 1) :: ds) _ _ (fun _ _ _ => False) (hr.make C [] []) (I2.env0.make C [] []) (hb _ [Value.ref (hp.objs.size + 1)] I2.kIn hl) r2 hq) fun r s' hq' => ?_))
  cases r with
  | error er => exact hx pins σ _ _ er s' I2 hq'
  | ok fl =>
    cases fl with
    | ret u =>
      obtain ⟨v, H2, os2, bare2, un2, hok2, rv, ev, ea, q2⟩ := hq'
      subst ev
      obtain ⟨h2, g2, d2, t2, os'⟩ := s'
      obtain ⟨t0, G, J, kG, ge, hoe, na⟩ := mk_bare (d2 := d2) (t2 := t2) I hsz kk un2 hok2 os2 bare2 ea
      exact ⟨rv, hp.objs.size + 1, _, _, ⟨G, g2, d2, t2, os'⟩, _, .ref C, none, rfl, J, kG, ge, hoe, ⟨rfl, rfl, fun vs e => by cases e; rfl⟩, rfl, rfl, na, rfl, bare2, raises_own T.exC T.tyC, q2⟩
    | next => exact False.elim hq'
    | brk => exact False.elim hq'
    | cont => exact False.elim hq'
end
section
variable {P : Program} {w : World} {K : PySem.W.Frag} {mg : Str → Option Value} {base : Heap} {α : Type} [Rp α] {C : Addr}
abbrev s_NotInvertible___init__ : Stmt := inClass (topS 5) 0
theorem sc_NotInvertible___init__ : FnScope ["self"] ["self"] (defScope s_NotInvertible___init__) :=
  ⟨rfl, rfl, rfl, by decide +kernel, rfl, by decide +kernel, by decide +kernel⟩
def spNI (K : PySem.W.Frag) (NC : Addr) : Sp := fun vs H Q _ => ∃ a, vs = [.ref a] ∧ OexC K NC ∧ H a = some (exo a NC none) ∧ Q .non H
theorem ok_ni {f : Addr} {fd : FuncData} {S NC : Addr} (F : Fun K "__init__" "NotInvertible.__init__" s_NotInvertible___init__ f fd) (gS : mg "SheetError" = some (.ref S)) (T : SupC K S) :
    FnOk P w K mg base CX0 1 f fd ["self"] (spNI K NC) := by
  refine F.ok sc_NotInvertible___init__ (fun vs H Q E h => ?_) (fun cdv A outer s H vs Q E hr h => ?_)
  · obtain ⟨a, rfl, _⟩ := h
    rfl
  · obtain ⟨a, rfl, hC, ha, k⟩ := h
    refine ⟨_, (pss_one (ps_expr (pe_supinit rfl gS T (pa_cons (pv 0) (pa_cons pe_str pa_nil))))), ?_⟩
    exact ⟨_, rfl, a, NC, _, rfl, (by show 1 ≤ 1000; decide), hC, ha, k⟩
/-! ### undoing_rows -/
/-- the error of undoing_rows -/
structure NotI (P : Program) (w : World) (K : PySem.W.Frag) (mg : Str → Option Value) (base : Heap) (NC : Addr) : Prop where
  gl : mg "NotInvertible" = some (.ref NC)
  ex : OexC K NC
  init : ∃ (f : Addr) (fd : FuncData), PySem.W.findIn K (.ref NC) "__init__" = some (some (.ref f)) ∧ PySem.W.typeIn K (.ref f) = some (.type "function") ∧ Binds K fd ["self"] [] ∧ FnOk P w K mg base CX0 1 f fd ["self"] (spNI K NC)
theorem pmk_ni {X : Cx} {NC : Addr} {p pos : Pos} (N : NotI X.prog X.w X.K X.mg X.base NC) (hr : Room 2 X.A) (hg : Gl X "NotInvertible") : L2N.PMk X (.Call (.Name "NotInvertible" p) [] [] pos) (fun _ H Q => Q (.ref NC) none H) := by
  obtain ⟨f, fd, h1, h2, h3, h4⟩ := N.init
  intro pins s σ H Q I h
  refine pmk_bare (dvs := []) (ds := []) N.ex h1 h2 h4 hr h3 .nil pass0 hg N.gl (by decide) pins s σ H Q I (fun a ha => ⟨a, rfl, N.ex, upd_same, rfl, upd_same, ?_⟩)
  have e : del (upd H a (exo a NC none)) a = H := by
    funext b
    by_cases hb : b = a
    · rw [hb, del_same, ha]
    · rw [del_ne hb, upd_ne hb]
  rw [e]
  exact h
abbrev s_undoing_rows : Stmt := topS 18
theorem sc_undoing_rows : FnScope ["field", "rows", "made", "unit", "weights"] ["field", "rows"] (defScope s_undoing_rows) :=
  ⟨rfl, rfl, rfl, by decide +kernel, rfl, by decide +kernel, by decide +kernel⟩
/-- a def that may raise where nothing is handled -/
theorem okN {x qual : Str} {st : Stmt} {f : Addr} {fd : FuncData} {N ps : List Str} {k : Nat} {sp : Sp} (F : Fun K x qual st f fd) (S : FnScope N ps (defScope st)) (len : ∀ vs H Q E, sp vs H Q E → vs.length = ps.length)
    (hbody : ∀ (cdv : Value) (A : Around) (outer : List Env) (s : Shared) (H : Hp) (vs : List V) (Q : VK) (E : XK), Room k (A.deeper (PyProof.Rows.envOfC qual (defScope st) s.heap.objs.size f cdv)) → sp vs H Q E →
      ∃ t, PSs (cxOf (L2N.CX P w) P w K mg base N qual (defScope st) f cdv A outer s H E) (defBody st) t ∧ t { nx := fun _ H' => Q .non H', rt := Q } (start N vs) H) : FnOk P w K mg base (L2N.CX P w) (k + 1) f fd ps sp := by
  obtain ⟨oc, od, kV, doc, pm, an, cdv, ct, osl, rfl, lk, hcd⟩ := F.ex
  exact fn_of lk hcd S len fun A outer s H vs Q E hr hsp => hbody cdv A outer s H vs Q E hr hsp
def spUndo (α : Type) [Rp α] (C NC : Addr) : Sp := fun vs H Q E => ∃ (fo : Addr) (vr : V) (rows : List (List α)) (B : Nat), vs = [.ref fo, vr] ∧ FO α C H fo ∧ Rws H vr rows ∧ RedOk rows rows.length B ∧
  (∀ tab : List (List α), tab.length = rows.length → (∀ i T, tab[i]? = some T → weightsFor rows (unitRow rows.length i) = some T) → ∀ v H', Same H H' → RwsU H' v tab → Q v H') ∧
  ((∃ i, i < rows.length ∧ weightsFor rows (unitRow rows.length i) = none) → ∀ H', Same H H' → E (.ref NC) none H')
theorem unit_cf0 {B n i : Nat} (hB : 1 ≤ B) : Cf (1 : α) B (unitRow n i) := by
  have := unit_cf (k := n) (i := i) (show Cf (1 : α) B [] from ⟨Fl.one_ne, Fd.z_mono hB Fd.z_one, fun x hx => by cases hx⟩)
  simpa using this
theorem ok_undoing_rows {f : Addr} {fd : FuncData} {NC : Addr} (F : Fun K "undoing_rows" "undoing_rows" s_undoing_rows f fd) (T : Blt mg) (NI : NotI P w K mg base NC)
    (D_field_units : Dfn P w K mg base CX0 1 "field_units" ["field", "width"] (spUnits α C)) (D_weights_for : Dfn P w K mg base CX0 6 "weights_for" ["field", "rows", "row"] (spWts α C)) :
    FnOk P w K mg base (L2N.CX P w) 7 f fd ["field", "rows"] (spUndo α C NC) := by
  refine okN F sc_undoing_rows (fun vs H Q E h => ?_) (fun cdv A outer s H vs Q E hr h => ?_)
  · obtain ⟨fo, vr, rows, B, rfl, _⟩ := h
    rfl
  · obtain ⟨fo, vr, rows, B, rfl, hF, ⟨rp, rvs, rfl, hrp, arows⟩, ok, ks, kn⟩ := h
    refine ⟨_, (pss_cons (ps_set (i := 2) sc_undoing_rows.nd rfl (by first | exact Or.inl rfl | exact Or.inr rfl) (pe_lst pa_nil))
      (pss_cons (ps_for (passes_of rfl) rfl (pi_tupK (K := K) rfl (pe_cd D_field_units (hr.mono (by decide)) pass0 (pa_cons (pv 0) (pa_cons (pe_callB (call_lenK (K := K) rfl) (by rfl) T.len PySem.boot_len (pa_cons (pv 1) pa_nil)) pa_nil)))) (pg_name (i := 3) sc_undoing_rows.nd rfl (by first | exact Or.inl rfl | exact Or.inr rfl))
      (pss_cons (ps_set (i := 4) sc_undoing_rows.nd rfl (by first | exact Or.inl rfl | exact Or.inr rfl) (pe_cd D_weights_for (hr.mono (by decide)) pass0 (pa_cons (pv 0) (pa_cons (pv 1) (pa_cons (pv 3) pa_nil)))))
      (pss_cons (ps_if (pt_cmpR op_isN (pv 4) pe_non (nomark _))
      (pss_one (L2N.ps_raise rfl (L2N.takes_of rfl rfl rfl rfl) (pmk_ni NI (hr.mono (by decide)) rfl)))
      pss_nil)
      (pss_one (ps_expr (pe_bm PySem.F.plainAttrs_list PySem.F.slot_list_append PySem.F.type_list_append mt_append (pv 2) (pa_cons (pv 4) pa_nil)))))))
      (pss_one (ps_ret (pe_callTy (call_tupK (K := K) rfl) (by rfl) T.tuple (by decide +kernel) (pa_cons (pv 2) pa_nil)))))), ?_⟩
    have hlen : rvs.length = rows.length := arows.len
    refine ⟨Nat.zero_le _, fun mp nmp => ?_⟩
    have s0 : Same H (upd H mp (.lst [])) := Same.new nmp
    refine ⟨_, rfl, _, rfl, rp, rvs, rfl, .inl (SqL.of (s0 _ _ hrp)), fo, rvs.length, rfl, hF.same s0, by have := ok.len; omega, fun vu Hu su ⟨ua, uvs, eu, hua, au⟩ => ?_⟩
    subst eu
    rw [hlen] at au
    refine ⟨ua, rfl, ⟨_, SqT.of hua⟩, ?_⟩
    have ul : uvs.length = rows.length := by rw [au.len, unitRows_len]
    refine for_tup (K := K) (a := ua) (xs := uvs) (fun i σ H1 => Same H H1 ∧ Tk Hu H1 ∧ ∃ (mvs : List V) (tab : List (List α)) (u ws : Option V), σ = [some (.ref fo), some (.ref rp), some (.ref mp), u, ws] ∧ H1 mp = some (.lst mvs) ∧ Al (Row H1) mvs tab ∧ tab.length = i ∧
        ∀ i T, tab[i]? = some T → weightsFor rows (unitRow rows.length i) = some T)
      ⟨s0.trans su, Tk.refl Hu, [], [], none, none, rfl, su _ _ upd_same, Al.nil, rfl, fun i T h => by simp at h⟩ (fun i σ H1 _ q => SqT.of (q.2.1 _ _ hua)) (fun i x σ H1 hx q => ?_) (fun σ H1 q => ?_)
    · obtain ⟨s1, s2, mvs, tab, u, ws, rfl, hm, at_, tl, tw⟩ := q
      obtain ⟨ur, hur, rur⟩ := au.get hx
      have hi : i < rows.length := by have := (List.getElem?_eq_some_iff.mp hx).1; omega
      have eur : ur = unitRow rows.length i := by
        unfold unitRows at hur
        rw [List.getElem?_map, List.getElem?_range hi] at hur
        exact (Option.some.inj hur).symm
      subst eur
      have hR1 : Rws H1 (.ref rp) rows := ⟨rp, rvs, rfl, s1 _ _ hrp, arows.mono fun _ _ r => r.same s1⟩
      refine ⟨_, rfl, _, rfl, _, rfl, fo, .ref rp, x, rows, unitRow rows.length i, rows.length, B, 64, rfl, hF.same s1, hR1, (rur.ts s2).s, ok, unitRow_len, ⟨1, unit_cf0 (by decide)⟩, by have := ok.hB; omega, by decide, fun hn H2 s3 => ?_, fun T hT v H2 s3 rT => ?_⟩
      · refine ⟨_, rfl, rfl, _, rfl, iteT ?_⟩
        exact kn ⟨i, hi, hn⟩ H2 (s1.trans s3)
      · obtain ⟨va, vvs, rfl, hva, av⟩ := rT
        have hm2 := s3 _ _ hm
        refine ⟨_, rfl, rfl, _, rfl, iteF ?_⟩
        refine ⟨_, rfl, .inl ⟨rfl, _, SqL.of hm2⟩, _, rfl, mp, mvs, _, rfl, rfl, hm2, Nat.lt_of_lt_of_le (show mvs.length < 1000 by rw [at_.len]; have := ok.len; omega) (by decide), ?_⟩
        refine ⟨Same.mut (s1.trans s3) nmp, ?_, mvs ++ [.ref va], tab ++ [T], _, _, rfl, upd_same, ?_, by rw [List.length_append, tl]; rfl, fun j T' hj => ?_⟩
        · exact s2.trans ((Tk.of s3).trans (Tk.lst hm2))
        · exact Al.snoc (at_.mono fun _ _ r => (r.ts (Tk.of s3)).ts (Tk.lst hm2)) ⟨va, vvs, rfl, Tk.lst hm2 _ _ hva, al_ts (Tk.lst hm2) av⟩
        · by_cases hj2 : j < tab.length
          · rw [List.getElem?_append_left hj2] at hj
            exact tw j T' hj
          · rw [List.getElem?_append_right (by omega)] at hj
            cases hk : j - tab.length with
            | zero =>
              rw [hk] at hj
              cases hj
              have ej : j = i := by omega
              rw [ej]; exact hT
            | succ n => rw [hk] at hj; simp at hj
    · obtain ⟨s1, s2, mvs, tab, u, ws, rfl, hm, at_, tl, tw⟩ := q
      refine ⟨_, rfl, mp, mvs, rfl, ?_⟩
      refine .inl ⟨SqL.of hm, fun l hl => ?_⟩
      exact ks tab (by omega) tw _ _ (s1.trans (Same.new hl)) ⟨l, mvs, rfl, upd_same, at_.mono fun _ _ r => r.ts (Tk.new hl)⟩
end
end W26

end

/-! ## WLaw1 -/
section
set_option Elab.async false
set_option linter.all false
set_option maxRecDepth 100000
set_option maxHeartbeats 2000000
/-! The law's own numbers. -/
namespace W26
open PySem L2 M26
open Rp
section
variable {P : Program} {w : World} {K : PySem.W.Frag} {mg : Str → Option Value} {base : Heap}
abbrev s_l_gcd : Stmt := topS 34
theorem sc_l_gcd : FnScope ["_law_one", "_law_other", "_law_rest"] ["_law_one", "_law_other"] (defScope s_l_gcd) :=
  ⟨rfl, rfl, rfl, by decide +kernel, rfl, by decide +kernel, by decide +kernel⟩
abbrev s_l_low : Stmt := topS 35
theorem sc_l_low : FnScope ["_law_top", "_law_bottom", "_law_part"] ["_law_top", "_law_bottom"] (defScope s_l_low) :=
  ⟨rfl, rfl, rfl, by decide +kernel, rfl, by decide +kernel, by decide +kernel⟩
abbrev s_l_whole : Stmt := topS 33
theorem sc_l_whole : FnScope ["_law_thing"] ["_law_thing"] (defScope s_l_whole) :=
  ⟨rfl, rfl, rfl, by decide +kernel, rfl, by decide +kernel, by decide +kernel⟩
abbrev s_l_some : Stmt := topS 36
theorem sc_l_some : FnScope ["_law_p", "_law_number_here"] ["_law_p", "_law_number_here"] (defScope s_l_some) :=
  ⟨rfl, rfl, rfl, by decide +kernel, rfl, by decide +kernel, by decide +kernel⟩
abbrev s_l_plus : Stmt := topS 37
theorem sc_l_plus : FnScope ["_law_p", "_law_one", "_law_other"] ["_law_p", "_law_one", "_law_other"] (defScope s_l_plus) :=
  ⟨rfl, rfl, rfl, by decide +kernel, rfl, by decide +kernel, by decide +kernel⟩
abbrev s_l_times : Stmt := topS 38
theorem sc_l_times : FnScope ["_law_p", "_law_one", "_law_other"] ["_law_p", "_law_one", "_law_other"] (defScope s_l_times) :=
  ⟨rfl, rfl, rfl, by decide +kernel, rfl, by decide +kernel, by decide +kernel⟩
abbrev s_l_minus : Stmt := topS 39
theorem sc_l_minus : FnScope ["_law_p", "_law_one"] ["_law_p", "_law_one"] (defScope s_l_minus) :=
  ⟨rfl, rfl, rfl, by decide +kernel, rfl, by decide +kernel, by decide +kernel⟩
abbrev s_l_over : Stmt := topS 40
theorem sc_l_over : FnScope ["_law_p", "_law_one", "_law_other", "_law_out", "_law_base", "_law_left"] ["_law_p", "_law_one", "_law_other"] (defScope s_l_over) :=
  ⟨rfl, rfl, rfl, by decide +kernel, rfl, by decide +kernel, by decide +kernel⟩
abbrev s_l_nought : Stmt := topS 41
theorem sc_l_nought : FnScope ["_law_p", "_law_thing"] ["_law_p", "_law_thing"] (defScope s_l_nought) :=
  ⟨rfl, rfl, rfl, by decide +kernel, rfl, by decide +kernel, by decide +kernel⟩
abbrev s_l_good : Stmt := topS 42
theorem sc_l_good : FnScope ["_law_p", "_law_thing"] ["_law_p", "_law_thing"] (defScope s_l_good) :=
  ⟨rfl, rfl, rfl, by decide +kernel, rfl, by decide +kernel, by decide +kernel⟩
theorem ok_l_gcd {f : Addr} {fd : FuncData} (F : Fun K "_law_gcd" "_law_gcd" s_l_gcd f fd) (T : Blt mg) : FnOk P w K mg base CX0 1 f fd ["_law_one", "_law_other"] spGcd := by
  refine F.ok sc_l_gcd (fun vs H Q E h => ?_) (fun cdv A outer s H vs Q E hr h => ?_)
  · obtain ⟨a, b, rfl, _⟩ := h
    rfl
  · obtain ⟨a, b, rfl, k⟩ := h
    refine ⟨_, (pss_cons (ps_set (i := 0) sc_l_gcd.nd rfl (by first | exact Or.inl rfl | exact Or.inr rfl) (pe_callB call_abs (by rfl) T.abs (by decide +kernel) (pa_cons (pv 0) pa_nil)))
      (pss_cons (ps_set (i := 1) sc_l_gcd.nd rfl (by first | exact Or.inl rfl | exact Or.inr rfl) (pe_callB call_abs (by rfl) T.abs (by decide +kernel) (pa_cons (pv 1) pa_nil)))
      (pss_cons (ps_while PassesOwn.never (pt_cmpR op_gt (pv 1) pe_int (nomark _))
      (pss_cons (ps_set (i := 2) sc_l_gcd.nd rfl (by first | exact Or.inl rfl | exact Or.inr rfl) (pe_op op_modN (pe_callTy call_int1 (by rfl) T.int (by decide +kernel) (pa_cons (pv 0) pa_nil)) (pv 1)))
      (pss_cons (ps_set (i := 0) sc_l_gcd.nd rfl (by first | exact Or.inl rfl | exact Or.inr rfl) (pv 1))
      (pss_one (ps_set (i := 1) sc_l_gcd.nd rfl (by first | exact Or.inl rfl | exact Or.inr rfl) (pv 2))))))
      (pss_one (ps_ret (pv 0)))))), ?_⟩
    refine ⟨_, rfl, _, rfl, ?_⟩
    refine ⟨_, rfl, _, rfl, ?_⟩
    rw [abs_nat a, abs_nat b]
    refine wh (fun σ H' => H' = H ∧ ∃ (x y : Nat) (r : Option V), σ = [some (.int (x : Nat)), some (.int (y : Nat)), r] ∧ Nat.gcd x y = Int.gcd a b) (fun σ _ => sec 1 σ) ⟨rfl, a.natAbs, b.natAbs, none, rfl, rfl⟩ ?_ ?_
    · rintro σ H' ⟨rfl, x, y, r, rfl, hg⟩
      refine ⟨_, rfl, _, _, rfl, rfl, _, rfl, ?_⟩
      refine ite2 (fun c => ?_) (fun c => ?_)
      · have c : (0 : Int) < (y : Int) := of_decide_eq_true c
        refine ⟨_, rfl, .inl ⟨_, rfl, _, rfl, _, _, rfl, rfl, (by omega), ?_⟩⟩
        refine ⟨_, rfl, ?_⟩
        refine ⟨_, rfl, ?_⟩
        refine ⟨⟨rfl, y, x % y, some (.int ((x % y : Nat) : Nat)), ?_, by rw [gcd_turn, hg]⟩, ?_⟩
        · show [some (V.int (y : Nat)), some (V.int ((x : Int).fmod (y : Int))), some (V.int ((x : Int).fmod (y : Int)))] = _
          rw [mod_nat]
        · show ((x : Int).fmod (y : Int)).natAbs < y
          rw [mod_nat]
          exact Nat.mod_lt _ (by omega)
      · have c : ¬ (0 : Int) < (y : Int) := fun z => c (decide_eq_true z)
        have y0 : y = 0 := by omega
        subst y0
        rw [Nat.gcd_zero_right] at hg
        refine ⟨_, rfl, ?_⟩
        rw [hg]
        exact k
    · rintro σ H Q Q' f ⟨v, e, i, j, e1, e2, c, ec, q⟩
      exact ⟨v, e, i, j, e1, e2, c, ec, f _ _ q⟩
theorem ok_l_low {f : Addr} {fd : FuncData} (F : Fun K "_law_low" "_law_low" s_l_low f fd) (T : Blt mg)
    (D_l_gcd : Dfn P w K mg base CX0 1 "_law_gcd" ["_law_one", "_law_other"] spGcd) : FnOk P w K mg base CX0 2 f fd ["_law_top", "_law_bottom"] spLow := by
  refine F.ok sc_l_low (fun vs H Q E h => ?_) (fun cdv A outer s H vs Q E hr h => ?_)
  · obtain ⟨a, b, rfl, _⟩ := h
    rfl
  · obtain ⟨a, b, rfl, hb, hl, k⟩ := h
    refine ⟨_, (pss_cons (ps_set (i := 2) sc_l_low.nd rfl (by first | exact Or.inl rfl | exact Or.inr rfl) (pe_cd D_l_gcd (hr.mono (by decide)) pass0 (pa_cons (pv 0) (pa_cons (pv 1) pa_nil))))
      (pss_cons (ps_if (pt_cmpR op_lt (pv 1) pe_int (nomark _))
      (pss_one (ps_set (i := 2) sc_l_low.nd rfl (by first | exact Or.inl rfl | exact Or.inr rfl) (pe_un un_neg (pv 2))))
      pss_nil)
      (pss_one (ps_ret (pe_tup (pa_cons (pe_op op_fdivX (pv 0) (pv 2)) (pa_cons (pe_op op_fdivX (pv 1) (pv 2)) pa_nil))))))), ?_⟩
    refine ⟨_, rfl, _, rfl, a, b, rfl, ?_⟩
    refine ⟨_, rfl, _, _, rfl, rfl, _, rfl, ?_⟩
    have fin : ∀ s : Int, s = (if b < 0 then -((Int.gcd a b : Nat) : Int) else ((Int.gcd a b : Nat) : Int)) → (tRet (tTup (tCons (tOp (rI (fun _ j => j ≠ 0 ∧ j.natAbs.log2 < 9000) fun i j => .int (i.fdiv j)) (tVar 0) (tVar 2)) (tCons (tOp (rI (fun _ j => j ≠ 0 ∧ j.natAbs.log2 < 9000) fun i j => .int (i.fdiv j)) (tVar 1) (tVar 2)) tNil)))) { nx := fun _ H' => Q .non H', rt := Q } [some (.int a), some (.int b), some (.int s)] H := by
      intro s hs
      obtain ⟨h1, h2, h3⟩ := low_num hb s hs
      have h4 := low_log hb hl hs
      refine ⟨_, rfl, _, rfl, _, _, rfl, rfl, ⟨h3, h4⟩, _, rfl, _, rfl, _, _, rfl, rfl, ⟨h3, h4⟩, (by show 2 ≤ sizeLine; decide), fun p hp => ?_⟩
      refine k _ _ (Same.new hp) ⟨p, rfl, ?_⟩
      rw [upd_same]
      show some (HO.tup [V.int (a.fdiv s), V.int (b.fdiv s)]) = _
      rw [h1, h2]
    refine ite2 (fun c => ?_) (fun c => ?_)
    · have c := of_decide_eq_true c
      refine ⟨_, rfl, _, rfl, ?_⟩
      exact fin _ (if_pos c).symm
    · have c : ¬ b < 0 := fun z => c (decide_eq_true z)
      exact fin _ (if_neg c).symm
/-- a whole number is whole -/
def spLWhole : Sp := fun vs H Q _ => ∃ a : Int, vs = [.int a] ∧ Q (.bl true) H
theorem ok_l_whole {f : Addr} {fd : FuncData} (F : Fun K "_law_whole" "_law_whole" s_l_whole f fd) (T : Blt mg) : FnOk P w K mg base CX0 1 f fd ["_law_thing"] spLWhole := by
  refine F.ok sc_l_whole (fun vs H Q E h => ?_) (fun cdv A outer s H vs Q E hr h => ?_)
  · obtain ⟨a, rfl, _⟩ := h
    rfl
  · obtain ⟨a, rfl, k⟩ := h
    refine ⟨_, (pss_one (ps_ret (pe_and (pe_callB (call_isiK' (K := K) rfl) (by rfl) T.isinstance (by decide +kernel) (pa_cons (pv 0) (pa_cons (pe_bltn (v := .ty "int") (by rfl) T.int (by decide +kernel) rfl) pa_nil))) (pe_one (pe_not (pe_callB (call_isiK' (K := K) rfl) (by rfl) T.isinstance (by decide +kernel) (pa_cons (pv 0) (pa_cons (pe_bltn (v := .ty "bool") (by rfl) T.bool (by decide +kernel) rfl) pa_nil)))))))), ?_⟩
    refine ⟨_, rfl, _, _, _, _, true, rfl, .ty "int", .base (.int _), kit_ty (by decide +kernel), ?_⟩
    refine ⟨_, rfl, ?_⟩
    refine iteT ?_
    refine ⟨_, rfl, _, _, _, _, false, rfl, .ty "bool", .base (.int _), kit_ty (by decide +kernel), ?_⟩
    refine ⟨_, rfl, ?_⟩
    exact k
/-! ### what the law's numbers promise, for either field -/
/-- zero, one, minus one -/
def num (α : Type) [Fl α] (n : Int) : α := if n = 0 then 0 else if n = 1 then 1 else -1
def spSome (α : Type) [Rp α] : Sp := fun vs H Q _ => ∃ n : Int, vs = [.int (Fd.p α), .int n] ∧ (n = 0 ∨ n = 1 ∨ n = -1) ∧ ∀ v H', Same H H' → rep H' v (num α n) → Q v H'
def spL2 (α : Type) [Rp α] (op : α → α → α) (ok : α → α → Prop) : Sp := fun vs H Q _ => ∃ (v1 v2 : V) (x y : α), vs = [.int (Fd.p α), v1, v2] ∧ rep H v1 x ∧ rep H v2 y ∧ Fd.Sm x ∧ Fd.Sm y ∧ ok x y ∧ ∀ v H', Same H H' → rep H' v (op x y) → Q v H'
def spL1 (α : Type) [Rp α] (op : α → α) : Sp := fun vs H Q _ => ∃ (v1 : V) (x : α), vs = [.int (Fd.p α), v1] ∧ rep H v1 x ∧ Fd.Sm x ∧ ∀ v H', Same H H' → rep H' v (op x) → Q v H'
def spNought (α : Type) [Rp α] : Sp := fun vs H Q _ => ∃ (v1 : V) (x : α), vs = [.int (Fd.p α), v1] ∧ rep H v1 x ∧ ∀ H', Same H H' → Q (.bl (decide (x = 0))) H'
def spGood (α : Type) [Rp α] : Sp := fun vs H Q _ => ∃ (v1 : V) (x : α), vs = [.int (Fd.p α), v1] ∧ rep H v1 x ∧ Q (.bl true) H
/-- the law's numbers -/
structure LKit (P : Program) (w : World) (K : PySem.W.Frag) (mg : Str → Option Value) (base : Heap) (α : Type) [Rp α] : Prop where
  some_ : Dfn P w K mg base CX0 1 "_law_some" ["_law_p", "_law_number_here"] (spSome α)
  plus : Dfn P w K mg base CX0 3 "_law_plus" ["_law_p", "_law_one", "_law_other"] (spL2 α (fun x y => x + y) fun _ _ => True)
  times : Dfn P w K mg base CX0 3 "_law_times" ["_law_p", "_law_one", "_law_other"] (spL2 α (fun x y => x * y) fun _ _ => True)
  minus : Dfn P w K mg base CX0 4 "_law_minus" ["_law_p", "_law_one"] (spL1 α fun x => -1 * x)
  over : Dfn P w K mg base CX0 3 "_law_over" ["_law_p", "_law_one", "_law_other"] (spL2 α (fun x y => x * Fl.inv y) fun _ y => y ≠ 0)
  nought : Dfn P w K mg base CX0 2 "_law_nought" ["_law_p", "_law_thing"] (spNought α)
  good : Dfn P w K mg base CX0 2 "_law_good" ["_law_p", "_law_thing"] (spGood α)
theorem num_cases {α : Type} [Fl α] : num α 0 = 0 ∧ num α 1 = 1 ∧ num α (-1) = -1 := ⟨by unfold num; rw [if_pos rfl], by unfold num; rw [if_neg (by decide), if_pos rfl], by unfold num; rw [if_neg (by decide), if_neg (by decide)]⟩
/-! ### modulo a prime -/
section
variable {p : Nat} [PP : PrimeP p]
theorem fin_num {n : Int} (h : n = 0 ∨ n = 1 ∨ n = -1) : n.fmod (p : Int) = (((num (Fin p) n).val : Nat) : Int) := by
  obtain ⟨e0, e1, e2⟩ := num_cases (α := Fin p)
  have h2 := PP.two
  rcases h with rfl | rfl | rfl
  · rw [e0]; exact Int.zero_fmod _
  · rw [e1, one_val]
    have := mod_nat 1 p
    rw [Nat.mod_eq_of_lt (by omega)] at this
    exact this
  · rw [e2]
    have := fin_sub (0 : Fin p) 1
    rw [one_val] at this
    have e : (0 : Fin p) - 1 = -1 := by grind
    rw [e] at this
    exact this
theorem p_pos : (0 : Int) < (p : Int) := by have := PP.two; omega
theorem fin_mod (x : Fin p) : ((x.val : Nat) : Int).fmod (p : Int) = ((x.val : Nat) : Int) := by rw [mod_nat, Nat.mod_eq_of_lt x.isLt]
theorem ok_l_some_fin {f : Addr} {fd : FuncData} (F : Fun K "_law_some" "_law_some" s_l_some f fd) (T : Blt mg) : FnOk P w K mg base CX0 1 f fd ["_law_p", "_law_number_here"] (spSome (Fin p)) := by
  refine F.ok sc_l_some (fun vs H Q E h => ?_) (fun cdv A outer s H vs Q E hr h => ?_)
  · obtain ⟨n, rfl, _⟩ := h
    rfl
  · obtain ⟨n, rfl, hn, k⟩ := h
    refine ⟨_, (pss_cons (ps_if (pt_cmpR op_gt (pv 0) pe_int (nomark _))
      (pss_one (ps_ret (pe_op op_modN (pe_callTy call_int1 (by rfl) T.int (by decide +kernel) (pa_cons (pv 1) pa_nil)) (pv 0))))
      pss_nil)
      (pss_one (ps_ret (pe_tup (pa_cons (pv 1) (pa_cons pe_int pa_nil)))))), ?_⟩
    refine ⟨_, rfl, _, _, rfl, rfl, _, rfl, ?_⟩
    refine ite2 (fun _ => ?_) (fun z => absurd (decide_eq_true (p_pos (p := p))) z)
    refine ⟨_, rfl, .inl ⟨_, rfl, _, rfl, _, _, rfl, rfl, fin_pi (p := p), ?_⟩⟩
    refine k _ H (Same.refl H) ?_
    show V.int (n.fmod (p : Int)) = _
    rw [fin_num hn]
theorem ok_l_plus_fin {f : Addr} {fd : FuncData} (F : Fun K "_law_plus" "_law_plus" s_l_plus f fd) (T : Blt mg) (D_l_low : Dfn P w K mg base CX0 2 "_law_low" ["_law_top", "_law_bottom"] spLow) :
    FnOk P w K mg base CX0 3 f fd ["_law_p", "_law_one", "_law_other"] (spL2 (Fin p) (fun x y => x + y) fun _ _ => True) := by
  refine F.ok sc_l_plus (fun vs H Q E h => ?_) (fun cdv A outer s H vs Q E hr h => ?_)
  · obtain ⟨v1, v2, x, y, rfl, _⟩ := h
    rfl
  · obtain ⟨v1, v2, x, y, rfl, r1, r2, _, _, _, k⟩ := h
    cases (show v1 = .int (x.val : Int) from r1)
    cases (show v2 = .int (y.val : Int) from r2)
    refine ⟨_, (pss_cons (ps_if (pt_cmpR op_gt (pv 0) pe_int (nomark _))
      (pss_one (ps_ret (pe_op op_modN (pe_callTy call_int1 (by rfl) T.int (by decide +kernel) (pa_cons (pe_op op_add (pv 1) (pv 2)) pa_nil)) (pv 0))))
      pss_nil)
      (pss_one (ps_ret (pe_cd D_l_low (hr.mono (by decide)) pass0 (pa_cons (pe_op op_add (pe_op op_mulW (pe_ix (ix_tupK (K := K) rfl) (pv 1) pe_int (fun _ _ => rfl)) (pe_ix (ix_tupK (K := K) rfl) (pv 2) pe_int (fun _ _ => rfl))) (pe_op op_mulW (pe_ix (ix_tupK (K := K) rfl) (pv 2) pe_int (fun _ _ => rfl)) (pe_ix (ix_tupK (K := K) rfl) (pv 1) pe_int (fun _ _ => rfl)))) (pa_cons (pe_op op_mulW (pe_ix (ix_tupK (K := K) rfl) (pv 1) pe_int (fun _ _ => rfl)) (pe_ix (ix_tupK (K := K) rfl) (pv 2) pe_int (fun _ _ => rfl))) pa_nil)))))), ?_⟩
    refine ⟨_, rfl, _, _, rfl, rfl, _, rfl, ?_⟩
    refine ite2 (fun _ => ?_) (fun z => absurd (decide_eq_true (p_pos (p := p))) z)
    refine ⟨_, rfl, _, rfl, _, _, rfl, rfl, .inl ⟨_, rfl, _, rfl, _, _, rfl, rfl, fin_pi (p := p), ?_⟩⟩
    refine k _ H (Same.refl H) ?_
    show V.int ((((x.val : Nat) : Int) + ((y.val : Nat) : Int)).fmod (p : Int)) = _
    rw [fin_add]
theorem ok_l_times_fin {f : Addr} {fd : FuncData} (F : Fun K "_law_times" "_law_times" s_l_times f fd) (T : Blt mg) (D_l_low : Dfn P w K mg base CX0 2 "_law_low" ["_law_top", "_law_bottom"] spLow) :
    FnOk P w K mg base CX0 3 f fd ["_law_p", "_law_one", "_law_other"] (spL2 (Fin p) (fun x y => x * y) fun _ _ => True) := by
  refine F.ok sc_l_times (fun vs H Q E h => ?_) (fun cdv A outer s H vs Q E hr h => ?_)
  · obtain ⟨v1, v2, x, y, rfl, _⟩ := h
    rfl
  · obtain ⟨v1, v2, x, y, rfl, r1, r2, _, _, _, k⟩ := h
    cases (show v1 = .int (x.val : Int) from r1)
    cases (show v2 = .int (y.val : Int) from r2)
    refine ⟨_, (pss_cons (ps_if (pt_cmpR op_gt (pv 0) pe_int (nomark _))
      (pss_one (ps_ret (pe_op op_modN (pe_callTy call_int1 (by rfl) T.int (by decide +kernel) (pa_cons (pe_op op_mulW (pv 1) (pv 2)) pa_nil)) (pv 0))))
      pss_nil)
      (pss_one (ps_ret (pe_cd D_l_low (hr.mono (by decide)) pass0 (pa_cons (pe_op op_mulW (pe_ix (ix_tupK (K := K) rfl) (pv 1) pe_int (fun _ _ => rfl)) (pe_ix (ix_tupK (K := K) rfl) (pv 2) pe_int (fun _ _ => rfl))) (pa_cons (pe_op op_mulW (pe_ix (ix_tupK (K := K) rfl) (pv 1) pe_int (fun _ _ => rfl)) (pe_ix (ix_tupK (K := K) rfl) (pv 2) pe_int (fun _ _ => rfl))) pa_nil)))))), ?_⟩
    refine ⟨_, rfl, _, _, rfl, rfl, _, rfl, ?_⟩
    refine ite2 (fun _ => ?_) (fun z => absurd (decide_eq_true (p_pos (p := p))) z)
    refine ⟨_, rfl, _, rfl, _, _, rfl, rfl, cm_small (fin_small x) (fin_small y), .inl ⟨_, rfl, _, rfl, _, _, rfl, rfl, fin_pi (p := p), ?_⟩⟩
    refine k _ H (Same.refl H) ?_
    show V.int ((((x.val : Nat) : Int) * ((y.val : Nat) : Int)).fmod (p : Int)) = _
    rw [fin_mul]
theorem ok_l_over_fin {f : Addr} {fd : FuncData} (F : Fun K "_law_over" "_law_over" s_l_over f fd) (T : Blt mg) (D_l_low : Dfn P w K mg base CX0 2 "_law_low" ["_law_top", "_law_bottom"] spLow) :
    FnOk P w K mg base CX0 3 f fd ["_law_p", "_law_one", "_law_other"] (spL2 (Fin p) (fun x y => x * Fl.inv y) fun _ y => y ≠ 0) := by
  refine F.ok sc_l_over (fun vs H Q E h => ?_) (fun cdv A outer s H vs Q E hr h => ?_)
  · obtain ⟨v1, v2, x, y, rfl, _⟩ := h
    rfl
  · obtain ⟨v1, v2, x, y, rfl, r1, r2, _, _, _, k⟩ := h
    cases (show v1 = .int (x.val : Int) from r1)
    cases (show v2 = .int (y.val : Int) from r2)
    have hp2 := PP.two
    have hpm := PP.most
    refine ⟨_, (pss_cons (ps_if (pt_cmpR op_eq (pv 0) pe_int (nomark _))
      (pss_one (ps_ret (pe_cd D_l_low (hr.mono (by decide)) pass0 (pa_cons (pe_op op_mulW (pe_ix (ix_tupK (K := K) rfl) (pv 1) pe_int (fun _ _ => rfl)) (pe_ix (ix_tupK (K := K) rfl) (pv 2) pe_int (fun _ _ => rfl))) (pa_cons (pe_op op_mulW (pe_ix (ix_tupK (K := K) rfl) (pv 1) pe_int (fun _ _ => rfl)) (pe_ix (ix_tupK (K := K) rfl) (pv 2) pe_int (fun _ _ => rfl))) pa_nil)))))
      pss_nil)
      (pss_cons (ps_set (i := 3) sc_l_over.nd rfl (by first | exact Or.inl rfl | exact Or.inr rfl) (pe_op op_modN (pe_callTy call_int1 (by rfl) T.int (by decide +kernel) (pa_cons (pv 1) pa_nil)) (pv 0)))
      (pss_cons (ps_set (i := 4) sc_l_over.nd rfl (by first | exact Or.inl rfl | exact Or.inr rfl) (pe_op op_modN (pe_callTy call_int1 (by rfl) T.int (by decide +kernel) (pa_cons (pv 2) pa_nil)) (pv 0)))
      (pss_cons (ps_set (i := 5) sc_l_over.nd rfl (by first | exact Or.inl rfl | exact Or.inr rfl) (pe_op op_sub (pv 0) pe_int))
      (pss_cons (ps_while PassesOwn.never (pt_cmpR op_gt (pv 5) pe_int (nomark _))
      (pss_cons (ps_if (pt_cmpR op_eq (pe_op op_modN (pe_callTy call_int1 (by rfl) T.int (by decide +kernel) (pa_cons (pv 5) pa_nil)) pe_int) pe_int (nomark _))
      (pss_one (ps_set (i := 3) sc_l_over.nd rfl (by first | exact Or.inl rfl | exact Or.inr rfl) (pe_op op_modN (pe_callTy call_int1 (by rfl) T.int (by decide +kernel) (pa_cons (pe_op op_mulW (pv 3) (pv 4)) pa_nil)) (pv 0))))
      pss_nil)
      (pss_cons (ps_set (i := 4) sc_l_over.nd rfl (by first | exact Or.inl rfl | exact Or.inr rfl) (pe_op op_modN (pe_callTy call_int1 (by rfl) T.int (by decide +kernel) (pa_cons (pe_op op_mulW (pv 4) (pv 4)) pa_nil)) (pv 0)))
      (pss_one (ps_set (i := 5) sc_l_over.nd rfl (by first | exact Or.inl rfl | exact Or.inr rfl) (pe_op op_fdivN (pv 5) pe_int))))))
      (pss_one (ps_ret (pv 3)))))))), ?_⟩
    refine ⟨_, rfl, rfl, _, rfl, ?_⟩
    refine ite2 (fun z => absurd (of_decide_eq_true z) (fun z => fin_p0 (p := p) (by injection z))) (fun _ => ?_)
    refine ⟨_, rfl, .inl ⟨_, rfl, _, rfl, _, _, rfl, rfl, fin_pi (p := p), ?_⟩⟩
    refine ⟨_, rfl, .inl ⟨_, rfl, _, rfl, _, _, rfl, rfl, fin_pi (p := p), ?_⟩⟩
    refine ⟨_, rfl, _, _, rfl, rfl, ?_⟩
    refine wh (fun σ H' => H' = H ∧ ∃ (o b : Fin p) (m : Nat), σ = [some (.int (p : Nat)), some (.int (x.val : Nat)), some (.int (y.val : Nat)), some (.int (o.val : Nat)), some (.int (b.val : Nat)), some (.int (m : Nat))] ∧ m < 2 ^ 14 ∧ fpow 14 o b m = x * finInv y)
      (fun σ _ => sec 5 σ) ⟨rfl, x, y, p - 2, ?_, by omega, ?_⟩ ?_ ?_
    · show [some (V.int (p : Nat)), some (V.int (x.val : Nat)), some (V.int (y.val : Nat)), some (V.int (((x.val : Nat) : Int).fmod (p : Int))), some (V.int (((y.val : Nat) : Int).fmod (p : Int))), some (V.int ((p : Int) - 2))] = _
      rw [fin_mod, fin_mod, show (p : Int) - 2 = ((p - 2 : Nat) : Int) by omega]
    · unfold finInv
      rw [← fpow_mul]
      congr 1
      grind
    · rintro σ H' ⟨rfl, o, b, m, rfl, hm, hf⟩
      refine ⟨_, rfl, _, _, rfl, rfl, _, rfl, ?_⟩
      refine ite2 (fun c => ?_) (fun c => ?_)
      · have c : (0 : Int) < (m : Int) := of_decide_eq_true c
        have m0 : m ≠ 0 := by omega
        have tn := fpow_turn (o := o) (b := b) m0 hm
        have ms : m / 2 < m := Nat.div_lt_self (by omega) (by decide)
        have em : ((m : Nat) : Int).fmod 2 = ((m % 2 : Nat) : Int) := mod_nat m 2
        have ed : ((m : Nat) : Int).fdiv 2 = ((m / 2 : Nat) : Int) := by rw [Int.fdiv_eq_ediv_of_nonneg _ (by decide)]; rfl
        refine ⟨_, rfl, .inl ⟨_, rfl, _, _, rfl, rfl, (by show (2 : Int) ≠ 0; decide), rfl, _, rfl, ?_⟩⟩
        refine ite2 (fun c2 => ?_) (fun c2 => ?_)
        · have c2 : m % 2 = 1 := by
            have z := of_decide_eq_true c2
            injection z with z
            rw [em] at z
            omega
          refine ⟨_, rfl, _, rfl, _, _, rfl, rfl, cm_small (fin_small o) (fin_small b), .inl ⟨_, rfl, _, rfl, _, _, rfl, rfl, fin_pi (p := p), ?_⟩⟩
          refine ⟨_, rfl, _, rfl, _, _, rfl, rfl, cm_small (fin_small b) (fin_small b), .inl ⟨_, rfl, _, rfl, _, _, rfl, rfl, fin_pi (p := p), ?_⟩⟩
          refine ⟨_, rfl, _, _, rfl, rfl, (by constructor <;> decide), ?_⟩
          refine ⟨⟨rfl, o * b, b * b, m / 2, ?_, by omega, ?_⟩, ?_⟩
          · show [some (V.int (p : Nat)), some (V.int (x.val : Nat)), some (V.int (y.val : Nat)), some (V.int ((((o.val : Nat) : Int) * ((b.val : Nat) : Int)).fmod (p : Int))), some (V.int ((((b.val : Nat) : Int) * ((b.val : Nat) : Int)).fmod (p : Int))), some (V.int (((m : Nat) : Int).fdiv 2))] = _
            rw [fin_mul, fin_mul, ed]
          · rw [← hf, tn, if_pos c2]
          · show (((m : Nat) : Int).fdiv 2).natAbs < m
            rw [ed]; exact ms
        · have c2 : ¬ m % 2 = 1 := fun z => c2 (decide_eq_true (by show V.int (((m : Nat) : Int).fmod 2) = V.int 1; rw [em, z]; rfl))
          refine ⟨_, rfl, _, rfl, _, _, rfl, rfl, cm_small (fin_small b) (fin_small b), .inl ⟨_, rfl, _, rfl, _, _, rfl, rfl, fin_pi (p := p), ?_⟩⟩
          refine ⟨_, rfl, _, _, rfl, rfl, (by constructor <;> decide), ?_⟩
          refine ⟨⟨rfl, o, b * b, m / 2, ?_, by omega, ?_⟩, ?_⟩
          · show [some (V.int (p : Nat)), some (V.int (x.val : Nat)), some (V.int (y.val : Nat)), some (V.int (o.val : Nat)), some (V.int ((((b.val : Nat) : Int) * ((b.val : Nat) : Int)).fmod (p : Int))), some (V.int (((m : Nat) : Int).fdiv 2))] = _
            rw [fin_mul, ed]
          · rw [← hf, tn, if_neg c2]
          · show (((m : Nat) : Int).fdiv 2).natAbs < m
            rw [ed]; exact ms
      · have c : ¬ (0 : Int) < (m : Int) := fun z => c (decide_eq_true z)
        have m0 : m = 0 := by omega
        subst m0
        rw [fpow_zero] at hf
        subst hf
        exact ⟨_, rfl, k _ _ (Same.refl H') rfl⟩
    · rintro σ H Q Q' f ⟨v, e, i, j, e1, e2, c, ec, q⟩
      exact ⟨v, e, i, j, e1, e2, c, ec, f _ _ q⟩
theorem gd_test {x : Fin p} : (0 : Int) ≤ (x.val : Int) ∧ (x.val : Int) < (p : Int) := ⟨by omega, by have := x.isLt; omega⟩
theorem ok_l_good_fin {f : Addr} {fd : FuncData} (F : Fun K "_law_good" "_law_good" s_l_good f fd) (T : Blt mg) (D_l_gcd : Dfn P w K mg base CX0 1 "_law_gcd" ["_law_one", "_law_other"] spGcd)
    (D_l_whole : Dfn P w K mg base CX0 1 "_law_whole" ["_law_thing"] spLWhole) : FnOk P w K mg base CX0 2 f fd ["_law_p", "_law_thing"] (spGood (Fin p)) := by
  refine F.ok sc_l_good (fun vs H Q E h => ?_) (fun cdv A outer s H vs Q E hr h => ?_)
  · obtain ⟨v1, x, rfl, _⟩ := h
    rfl
  · obtain ⟨v1, x, rfl, r1, k⟩ := h
    cases (show v1 = .int (x.val : Int) from r1)
    obtain ⟨g1, g2⟩ := gd_test (x := x)
    refine ⟨_, (pss_cons (ps_if (pt_cmpR op_gt (pv 0) pe_int (nomark _))
      (pss_one (ps_ret (pe_and (pe_cd D_l_whole (hr.mono (by decide)) pass0 (pa_cons (pv 1) pa_nil)) (pe_one (pe_chain op_le op_lt pe_int (pv 1) (pv 0))))))
      pss_nil)
      (pss_cons (ps_if (PW.pt (pw_or (pt_not (pt_val (pe_callB (call_isiK' (K := K) rfl) (by rfl) T.isinstance (by decide +kernel) (pa_cons (pv 1) (pa_cons (pe_bltn (v := .ty "tuple") (by rfl) T.tuple (by decide +kernel) rfl) pa_nil))))) (pw_or (pt_cmpR op_ne (pe_callB (call_lenK (K := K) rfl) (by rfl) T.len PySem.boot_len (pa_cons (pv 1) pa_nil)) pe_int (nomark _)) (pw_or (pt_not (pt_val (pe_cd D_l_whole (hr.mono (by decide)) pass0 (pa_cons (pe_ix (ix_tupK (K := K) rfl) (pv 1) pe_int (fun _ _ => rfl)) pa_nil)))) (pw_or1 (pt_not (pt_val (pe_cd D_l_whole (hr.mono (by decide)) pass0 (pa_cons (pe_ix (ix_tupK (K := K) rfl) (pv 1) pe_int (fun _ _ => rfl)) pa_nil)))))))))
      (pss_one (ps_ret pe_bl))
      pss_nil)
      (pss_one (ps_ret (pe_and (pe_cmpR op_gt (pe_ix (ix_tupK (K := K) rfl) (pv 1) pe_int (fun _ _ => rfl)) pe_int (nomark _)) (pe_one (pe_cmpR op_eq (pe_cd D_l_gcd (hr.mono (by decide)) pass0 (pa_cons (pe_ix (ix_tupK (K := K) rfl) (pv 1) pe_int (fun _ _ => rfl)) (pa_cons (pe_ix (ix_tupK (K := K) rfl) (pv 1) pe_int (fun _ _ => rfl)) pa_nil))) pe_int (nomark _)))))))), ?_⟩
    refine ⟨_, rfl, _, _, rfl, rfl, _, rfl, ?_⟩
    refine ite2 (fun _ => ?_) (fun z => absurd (decide_eq_true (p_pos (p := p))) z)
    refine ⟨_, rfl, _, rfl, true, rfl, iteT ?_⟩
    refine ⟨_, rfl, _, _, rfl, rfl, _, rfl, ?_⟩
    rw [decide_eq_true g1]
    refine iteT ?_
    refine ⟨_, rfl, _, _, rfl, rfl, ?_⟩
    show Q (.bl (decide ((x.val : Int) < (p : Int)))) H
    rw [decide_eq_true g2]
    exact k
end
/-! ### the fractions -/
theorem sm_rat0 : (Fd.p Rat : Int) = 0 := rfl
theorem rat_p {α : Prop} (z : decide ((0 : Int) < Fd.p Rat) = true) : α := absurd (of_decide_eq_true z) (by rw [sm_rat0]; decide)
theorem rat_p0 {α : Prop} (z : ¬ decide (V.int (Fd.p Rat) = V.int 0) = true) : α := absurd (decide_eq_true (by rw [sm_rat0])) z
theorem rat_num {n : Int} (h : n = 0 ∨ n = 1 ∨ n = -1) : (num Rat n).num = n ∧ (num Rat n).den = 1 := by
  obtain ⟨e0, e1, e2⟩ := num_cases (α := Rat)
  rcases h with rfl | rfl | rfl
  · rw [e0]; decide
  · rw [e1]; decide
  · rw [e2]; decide
theorem ok_l_some_rat {f : Addr} {fd : FuncData} (F : Fun K "_law_some" "_law_some" s_l_some f fd) (T : Blt mg) : FnOk P w K mg base CX0 1 f fd ["_law_p", "_law_number_here"] (spSome Rat) := by
  refine F.ok sc_l_some (fun vs H Q E h => ?_) (fun cdv A outer s H vs Q E hr h => ?_)
  · obtain ⟨n, rfl, _⟩ := h
    rfl
  · obtain ⟨n, rfl, hn, k⟩ := h
    refine ⟨_, (pss_cons (ps_if (pt_cmpR op_gt (pv 0) pe_int (nomark _))
      (pss_one (ps_ret (pe_op op_modN (pe_callTy call_int1 (by rfl) T.int (by decide +kernel) (pa_cons (pv 1) pa_nil)) (pv 0))))
      pss_nil)
      (pss_one (ps_ret (pe_tup (pa_cons (pv 1) (pa_cons pe_int pa_nil)))))), ?_⟩
    refine ⟨_, rfl, _, _, rfl, rfl, _, rfl, ?_⟩
    refine ite2 rat_p (fun _ => ?_)
    refine ⟨_, rfl, (by show 2 ≤ sizeLine; decide), fun p hp => ?_⟩
    refine k _ _ (Same.new hp) ⟨p, rfl, ?_⟩
    obtain ⟨e1, e2⟩ := rat_num hn
    rw [upd_same, e1, e2]
    rfl
theorem ok_l_plus_rat {f : Addr} {fd : FuncData} (F : Fun K "_law_plus" "_law_plus" s_l_plus f fd) (T : Blt mg) (D_l_low : Dfn P w K mg base CX0 2 "_law_low" ["_law_top", "_law_bottom"] spLow) :
    FnOk P w K mg base CX0 3 f fd ["_law_p", "_law_one", "_law_other"] (spL2 Rat (fun x y => x + y) fun _ _ => True) := by
  refine F.ok sc_l_plus (fun vs H Q E h => ?_) (fun cdv A outer s H vs Q E hr h => ?_)
  · obtain ⟨v1, v2, x, y, rfl, _⟩ := h
    rfl
  · obtain ⟨v1, v2, x, y, rfl, ⟨a, rfl, h1⟩, ⟨b, rfl, h2⟩, sx, sy, _, k⟩ := h
    have x0 := SqT.of (K := K) h1
    have y0 := SqT.of (K := K) h2
    refine ⟨_, (pss_cons (ps_if (pt_cmpR op_gt (pv 0) pe_int (nomark _))
      (pss_one (ps_ret (pe_op op_modN (pe_callTy call_int1 (by rfl) T.int (by decide +kernel) (pa_cons (pe_op op_add (pv 1) (pv 2)) pa_nil)) (pv 0))))
      pss_nil)
      (pss_one (ps_ret (pe_cd D_l_low (hr.mono (by decide)) pass0 (pa_cons (pe_op op_add (pe_op op_mulW (pe_ix (ix_tupK (K := K) rfl) (pv 1) pe_int (fun _ _ => rfl)) (pe_ix (ix_tupK (K := K) rfl) (pv 2) pe_int (fun _ _ => rfl))) (pe_op op_mulW (pe_ix (ix_tupK (K := K) rfl) (pv 2) pe_int (fun _ _ => rfl)) (pe_ix (ix_tupK (K := K) rfl) (pv 1) pe_int (fun _ _ => rfl)))) (pa_cons (pe_op op_mulW (pe_ix (ix_tupK (K := K) rfl) (pv 1) pe_int (fun _ _ => rfl)) (pe_ix (ix_tupK (K := K) rfl) (pv 2) pe_int (fun _ _ => rfl))) pa_nil)))))), ?_⟩
    refine ⟨_, rfl, _, _, rfl, rfl, _, rfl, ?_⟩
    refine ite2 rat_p (fun _ => ?_)
    refine ⟨_, rfl, a, _, 0, _, rfl, rfl, x0, rfl, _, rfl, b, _, 1, _, rfl, rfl, y0, rfl, _, _, rfl, rfl, cm9 (num_small sx) (den_small sy), ?_⟩
    refine ⟨_, rfl, b, _, 0, _, rfl, rfl, y0, rfl, _, rfl, a, _, 1, _, rfl, rfl, x0, rfl, _, _, rfl, rfl, cm9 (num_small sy) (den_small sx), _, _, rfl, rfl, ?_⟩
    refine ⟨_, rfl, a, _, 1, _, rfl, rfl, x0, rfl, _, rfl, b, _, 1, _, rfl, rfl, y0, rfl, _, _, rfl, rfl, cm9 (den_small sx) (den_small sy), ?_⟩
    refine ⟨_, _, rfl, den_ne x y, mul9 (den_small sx) (den_small sy), fun v H' s r => k v H' s ?_⟩
    rw [rat_add] at r
    exact r
theorem ok_l_times_rat {f : Addr} {fd : FuncData} (F : Fun K "_law_times" "_law_times" s_l_times f fd) (T : Blt mg) (D_l_low : Dfn P w K mg base CX0 2 "_law_low" ["_law_top", "_law_bottom"] spLow) :
    FnOk P w K mg base CX0 3 f fd ["_law_p", "_law_one", "_law_other"] (spL2 Rat (fun x y => x * y) fun _ _ => True) := by
  refine F.ok sc_l_times (fun vs H Q E h => ?_) (fun cdv A outer s H vs Q E hr h => ?_)
  · obtain ⟨v1, v2, x, y, rfl, _⟩ := h
    rfl
  · obtain ⟨v1, v2, x, y, rfl, ⟨a, rfl, h1⟩, ⟨b, rfl, h2⟩, sx, sy, _, k⟩ := h
    have x0 := SqT.of (K := K) h1
    have y0 := SqT.of (K := K) h2
    refine ⟨_, (pss_cons (ps_if (pt_cmpR op_gt (pv 0) pe_int (nomark _))
      (pss_one (ps_ret (pe_op op_modN (pe_callTy call_int1 (by rfl) T.int (by decide +kernel) (pa_cons (pe_op op_mulW (pv 1) (pv 2)) pa_nil)) (pv 0))))
      pss_nil)
      (pss_one (ps_ret (pe_cd D_l_low (hr.mono (by decide)) pass0 (pa_cons (pe_op op_mulW (pe_ix (ix_tupK (K := K) rfl) (pv 1) pe_int (fun _ _ => rfl)) (pe_ix (ix_tupK (K := K) rfl) (pv 2) pe_int (fun _ _ => rfl))) (pa_cons (pe_op op_mulW (pe_ix (ix_tupK (K := K) rfl) (pv 1) pe_int (fun _ _ => rfl)) (pe_ix (ix_tupK (K := K) rfl) (pv 2) pe_int (fun _ _ => rfl))) pa_nil)))))), ?_⟩
    refine ⟨_, rfl, _, _, rfl, rfl, _, rfl, ?_⟩
    refine ite2 rat_p (fun _ => ?_)
    refine ⟨_, rfl, a, _, 0, _, rfl, rfl, x0, rfl, _, rfl, b, _, 0, _, rfl, rfl, y0, rfl, _, _, rfl, rfl, cm9 (num_small sx) (num_small sy), ?_⟩
    refine ⟨_, rfl, a, _, 1, _, rfl, rfl, x0, rfl, _, rfl, b, _, 1, _, rfl, rfl, y0, rfl, _, _, rfl, rfl, cm9 (den_small sx) (den_small sy), ?_⟩
    refine ⟨_, _, rfl, den_ne x y, mul9 (den_small sx) (den_small sy), fun v H' s r => k v H' s ?_⟩
    rw [rat_mul] at r
    exact r
theorem ok_l_over_rat {f : Addr} {fd : FuncData} (F : Fun K "_law_over" "_law_over" s_l_over f fd) (T : Blt mg) (D_l_low : Dfn P w K mg base CX0 2 "_law_low" ["_law_top", "_law_bottom"] spLow) :
    FnOk P w K mg base CX0 3 f fd ["_law_p", "_law_one", "_law_other"] (spL2 Rat (fun x y => x * Fl.inv y) fun _ y => y ≠ 0) := by
  refine F.ok sc_l_over (fun vs H Q E h => ?_) (fun cdv A outer s H vs Q E hr h => ?_)
  · obtain ⟨v1, v2, x, y, rfl, _⟩ := h
    rfl
  · obtain ⟨v1, v2, x, y, rfl, ⟨a, rfl, h1⟩, ⟨b, rfl, h2⟩, sx, sy, hy, k⟩ := h
    have x0 := SqT.of (K := K) h1
    have y0 := SqT.of (K := K) h2
    have yn : y.num ≠ 0 := fun z => hy (Rat.num_eq_zero.mp z)
    refine ⟨_, (pss_cons (ps_if (pt_cmpR op_eq (pv 0) pe_int (nomark _))
      (pss_one (ps_ret (pe_cd D_l_low (hr.mono (by decide)) pass0 (pa_cons (pe_op op_mulW (pe_ix (ix_tupK (K := K) rfl) (pv 1) pe_int (fun _ _ => rfl)) (pe_ix (ix_tupK (K := K) rfl) (pv 2) pe_int (fun _ _ => rfl))) (pa_cons (pe_op op_mulW (pe_ix (ix_tupK (K := K) rfl) (pv 1) pe_int (fun _ _ => rfl)) (pe_ix (ix_tupK (K := K) rfl) (pv 2) pe_int (fun _ _ => rfl))) pa_nil)))))
      pss_nil)
      (pss_cons (ps_set (i := 3) sc_l_over.nd rfl (by first | exact Or.inl rfl | exact Or.inr rfl) (pe_op op_modN (pe_callTy call_int1 (by rfl) T.int (by decide +kernel) (pa_cons (pv 1) pa_nil)) (pv 0)))
      (pss_cons (ps_set (i := 4) sc_l_over.nd rfl (by first | exact Or.inl rfl | exact Or.inr rfl) (pe_op op_modN (pe_callTy call_int1 (by rfl) T.int (by decide +kernel) (pa_cons (pv 2) pa_nil)) (pv 0)))
      (pss_cons (ps_set (i := 5) sc_l_over.nd rfl (by first | exact Or.inl rfl | exact Or.inr rfl) (pe_op op_sub (pv 0) pe_int))
      (pss_cons (ps_while PassesOwn.never (pt_cmpR op_gt (pv 5) pe_int (nomark _))
      (pss_cons (ps_if (pt_cmpR op_eq (pe_op op_modN (pe_callTy call_int1 (by rfl) T.int (by decide +kernel) (pa_cons (pv 5) pa_nil)) pe_int) pe_int (nomark _))
      (pss_one (ps_set (i := 3) sc_l_over.nd rfl (by first | exact Or.inl rfl | exact Or.inr rfl) (pe_op op_modN (pe_callTy call_int1 (by rfl) T.int (by decide +kernel) (pa_cons (pe_op op_mulW (pv 3) (pv 4)) pa_nil)) (pv 0))))
      pss_nil)
      (pss_cons (ps_set (i := 4) sc_l_over.nd rfl (by first | exact Or.inl rfl | exact Or.inr rfl) (pe_op op_modN (pe_callTy call_int1 (by rfl) T.int (by decide +kernel) (pa_cons (pe_op op_mulW (pv 4) (pv 4)) pa_nil)) (pv 0)))
      (pss_one (ps_set (i := 5) sc_l_over.nd rfl (by first | exact Or.inl rfl | exact Or.inr rfl) (pe_op op_fdivN (pv 5) pe_int))))))
      (pss_one (ps_ret (pv 3)))))))), ?_⟩
    refine ⟨_, rfl, rfl, _, rfl, ?_⟩
    refine ite2 (fun _ => ?_) rat_p0
    refine ⟨_, rfl, a, _, 0, _, rfl, rfl, x0, rfl, _, rfl, b, _, 1, _, rfl, rfl, y0, rfl, _, _, rfl, rfl, cm9 (num_small sx) (den_small sy), ?_⟩
    refine ⟨_, rfl, a, _, 1, _, rfl, rfl, x0, rfl, _, rfl, b, _, 0, _, rfl, rfl, y0, rfl, _, _, rfl, rfl, cm9 (den_small sx) (num_small sy), ?_⟩
    refine ⟨_, _, rfl, Int.mul_ne_zero (by have := x.den_nz; omega) yn, mul9 (den_small sx) (num_small sy), fun v H' s r => k v H' s ?_⟩
    rw [rat_quot] at r
    exact r
theorem ok_l_good_rat {f : Addr} {fd : FuncData} (F : Fun K "_law_good" "_law_good" s_l_good f fd) (T : Blt mg) (D_l_gcd : Dfn P w K mg base CX0 1 "_law_gcd" ["_law_one", "_law_other"] spGcd)
    (D_l_whole : Dfn P w K mg base CX0 1 "_law_whole" ["_law_thing"] spLWhole) : FnOk P w K mg base CX0 2 f fd ["_law_p", "_law_thing"] (spGood Rat) := by
  refine F.ok sc_l_good (fun vs H Q E h => ?_) (fun cdv A outer s H vs Q E hr h => ?_)
  · obtain ⟨v1, x, rfl, _⟩ := h
    rfl
  · obtain ⟨v1, x, rfl, ⟨a, rfl, h1⟩, k⟩ := h
    have x0 := SqT.of (K := K) h1
    refine ⟨_, (pss_cons (ps_if (pt_cmpR op_gt (pv 0) pe_int (nomark _))
      (pss_one (ps_ret (pe_and (pe_cd D_l_whole (hr.mono (by decide)) pass0 (pa_cons (pv 1) pa_nil)) (pe_one (pe_chain op_le op_lt pe_int (pv 1) (pv 0))))))
      pss_nil)
      (pss_cons (ps_if (PW.pt (pw_or (pt_not (pt_val (pe_callB (call_isiK' (K := K) rfl) (by rfl) T.isinstance (by decide +kernel) (pa_cons (pv 1) (pa_cons (pe_bltn (v := .ty "tuple") (by rfl) T.tuple (by decide +kernel) rfl) pa_nil))))) (pw_or (pt_cmpR op_ne (pe_callB (call_lenK (K := K) rfl) (by rfl) T.len PySem.boot_len (pa_cons (pv 1) pa_nil)) pe_int (nomark _)) (pw_or (pt_not (pt_val (pe_cd D_l_whole (hr.mono (by decide)) pass0 (pa_cons (pe_ix (ix_tupK (K := K) rfl) (pv 1) pe_int (fun _ _ => rfl)) pa_nil)))) (pw_or1 (pt_not (pt_val (pe_cd D_l_whole (hr.mono (by decide)) pass0 (pa_cons (pe_ix (ix_tupK (K := K) rfl) (pv 1) pe_int (fun _ _ => rfl)) pa_nil)))))))))
      (pss_one (ps_ret pe_bl))
      pss_nil)
      (pss_one (ps_ret (pe_and (pe_cmpR op_gt (pe_ix (ix_tupK (K := K) rfl) (pv 1) pe_int (fun _ _ => rfl)) pe_int (nomark _)) (pe_one (pe_cmpR op_eq (pe_cd D_l_gcd (hr.mono (by decide)) pass0 (pa_cons (pe_ix (ix_tupK (K := K) rfl) (pv 1) pe_int (fun _ _ => rfl)) (pa_cons (pe_ix (ix_tupK (K := K) rfl) (pv 1) pe_int (fun _ _ => rfl)) pa_nil))) pe_int (nomark _)))))))), ?_⟩
    refine ⟨_, rfl, _, _, rfl, rfl, _, rfl, ?_⟩
    refine ite2 rat_p (fun _ => ?_)
    refine ⟨_, rfl, .ref a, .ty "tuple", .type "tuple", .type "tuple", true, rfl, .ty "tuple", .base (.tup h1), kit_ty (by decide +kernel), _, rfl, ?_⟩
    refine iteF ?_
    refine ⟨_, rfl, a, _, rfl, .inr x0, ?_⟩
    refine ⟨rfl, _, rfl, iteF ?_⟩
    refine ⟨_, rfl, a, _, 0, _, rfl, rfl, x0, rfl, _, rfl, _, rfl, iteF ?_⟩
    refine ⟨_, rfl, a, _, 1, _, rfl, rfl, x0, rfl, _, rfl, _, rfl, iteF ?_⟩
    have dp : (0 : Int) < (x.den : Int) := by have := x.den_nz; omega
    refine ⟨_, rfl, a, _, 1, _, rfl, rfl, x0, rfl, _, _, rfl, rfl, true, ?_, iteT ?_⟩
    · show V.bl (decide ((0 : Int) < (x.den : Int))) = _
      rw [decide_eq_true dp]
    refine ⟨_, rfl, a, _, 0, _, rfl, rfl, x0, rfl, _, rfl, a, _, 1, _, rfl, rfl, x0, rfl, _, _, rfl, ?_⟩
    refine ⟨rfl, ?_⟩
    have e : Int.gcd x.num (x.den : Int) = 1 := x.reduced
    show Q (.bl (decide (V.int ((Int.gcd x.num (x.den : Int) : Nat) : Int) = V.int 1))) H
    rw [e]
    exact k
/-! ### minus, nought -/
theorem ok_l_minus {α : Type} [Rp α] {f : Addr} {fd : FuncData} (F : Fun K "_law_minus" "_law_minus" s_l_minus f fd)
    (D_l_some : Dfn P w K mg base CX0 1 "_law_some" ["_law_p", "_law_number_here"] (spSome α)) (D_l_times : Dfn P w K mg base CX0 3 "_law_times" ["_law_p", "_law_one", "_law_other"] (spL2 α (fun x y => x * y) fun _ _ => True)) :
    FnOk P w K mg base CX0 4 f fd ["_law_p", "_law_one"] (spL1 α fun x => -1 * x) := by
  refine F.ok sc_l_minus (fun vs H Q E h => ?_) (fun cdv A outer s H vs Q E hr h => ?_)
  · obtain ⟨v1, x, rfl, _⟩ := h
    rfl
  · obtain ⟨v1, x, rfl, r1, sx, k⟩ := h
    refine ⟨_, (pss_one (ps_ret (pe_cd D_l_times (hr.mono (by decide)) pass0 (pa_cons (pv 0) (pa_cons (pe_cd D_l_some (hr.mono (by decide)) pass0 (pa_cons (pv 0) (pa_cons (pe_un un_neg pe_int) pa_nil))) (pa_cons (pv 1) pa_nil)))))), ?_⟩
    refine ⟨_, rfl, _, rfl, _, rfl, -1, rfl, .inr (.inr rfl), fun v H' s r => ?_⟩
    refine ⟨_, rfl, v, v1, num α (-1), x, rfl, r, rep_ts (Tk.of s) r1, ?_, sx, trivial, fun v2 H2 s2 r2 => k v2 H2 (s.trans s2) ?_⟩
    · rw [num_cases.2.2]; exact sm_neg_one
    · rw [num_cases.2.2] at r2; exact r2
theorem ok_l_nought {α : Type} [Rp α] {f : Addr} {fd : FuncData} (F : Fun K "_law_nought" "_law_nought" s_l_nought f fd)
    (D_l_some : Dfn P w K mg base CX0 1 "_law_some" ["_law_p", "_law_number_here"] (spSome α)) : FnOk P w K mg base CX0 2 f fd ["_law_p", "_law_thing"] (spNought α) := by
  refine F.ok sc_l_nought (fun vs H Q E h => ?_) (fun cdv A outer s H vs Q E hr h => ?_)
  · obtain ⟨v1, x, rfl, _⟩ := h
    rfl
  · obtain ⟨v1, x, rfl, r1, k⟩ := h
    refine ⟨_, (pss_one (ps_ret (pe_cmpR (op_eqK (K := K) rfl hr.units) (pv 1) (pe_cd D_l_some (hr.mono (by decide)) pass0 (pa_cons (pv 0) (pa_cons pe_int pa_nil))) (nomark _)))), ?_⟩
    refine ⟨_, rfl, _, rfl, 0, rfl, .inl rfl, fun v H' s r => ?_⟩
    rw [num_cases.1] at r
    refine ⟨dat x, dat (0 : α), rep_dp (rep_ts (Tk.of s) r1), rep_dp r, dat_shaped _, dat_shaped _, ?_⟩
    rw [dat_eqv]
    exact k H' s
end
end W26

end

/-! ## WLaw2 -/
section
set_option Elab.async false
set_option linter.all false
set_option maxRecDepth 100000
set_option maxHeartbeats 8000000
/-! The law's rows, sums. -/
namespace W26
open PySem L2 M26
open Rp
section
variable {P : Program} {w : World} {K : PySem.W.Frag} {mg : Str → Option Value} {base : Heap} {α : Type} [Rp α]
abbrev s_l_good_row : Stmt := topS 43
theorem sc_l_good_row : FnScope ["_law_p", "_law_row", "_law_width", "_law_item"] ["_law_p", "_law_row", "_law_width"] (defScope s_l_good_row) :=
  ⟨rfl, rfl, rfl, by decide +kernel, rfl, by decide +kernel, by decide +kernel⟩
abbrev s_l_good_rows : Stmt := topS 44
theorem sc_l_good_rows : FnScope ["_law_p", "_law_rows_here", "_law_many", "_law_width", "_law_row"] ["_law_p", "_law_rows_here", "_law_many", "_law_width"] (defScope s_l_good_rows) :=
  ⟨rfl, rfl, rfl, by decide +kernel, rfl, by decide +kernel, by decide +kernel⟩
abbrev s_l_sum : Stmt := topS 45
theorem sc_l_sum : FnScope ["_law_p", "_law_weights", "_law_rows_here", "_law_width", "_law_total", "_law_k", "_law_i"] ["_law_p", "_law_weights", "_law_rows_here", "_law_width"] (defScope s_l_sum) :=
  ⟨rfl, rfl, rfl, by decide +kernel, rfl, by decide +kernel, by decide +kernel⟩
def spGoodRow (α : Type) [Rp α] : Sp := fun vs H Q _ => ∃ (v : V) (xs : List α) (n : Nat), vs = [.int (Fd.p α), v, .int (n : Nat)] ∧ Row H v xs ∧ xs.length = n ∧ Q (.bl true) H
theorem ok_l_good_row {f : Addr} {fd : FuncData} (F : Fun K "_law_good_row" "_law_good_row" s_l_good_row f fd) (T : Blt mg) (D_l_good : Dfn P w K mg base CX0 2 "_law_good" ["_law_p", "_law_thing"] (spGood α)) :
    FnOk P w K mg base CX0 3 f fd ["_law_p", "_law_row", "_law_width"] (spGoodRow α) := by
  refine F.ok sc_l_good_row (fun vs H Q E h => ?_) (fun cdv A outer s H vs Q E hr h => ?_)
  · obtain ⟨v, xs, n, rfl, _⟩ := h
    rfl
  · obtain ⟨v, xs, n, rfl, ⟨a, vs, rfl, ha, al⟩, hl, k⟩ := h
    refine ⟨_, (pss_cons (ps_if (PW.pt (pw_or (pt_not (pt_val (pe_callB (call_isiK' (K := K) rfl) (by rfl) T.isinstance (by decide +kernel) (pa_cons (pv 1) (pa_cons (pe_bltn (v := .ty "tuple") (by rfl) T.tuple (by decide +kernel) rfl) pa_nil))))) (pw_or1 (pt_cmpR op_ne (pe_callB (call_lenK (K := K) rfl) (by rfl) T.len PySem.boot_len (pa_cons (pv 1) pa_nil)) (pv 2) (nomark _)))))
      (pss_one (ps_ret pe_bl))
      pss_nil)
      (pss_cons (ps_for PassesOwn.never rfl (pi_tupK (K := K) rfl (pv 1)) (pg_name (i := 3) sc_l_good_row.nd rfl (by first | exact Or.inl rfl | exact Or.inr rfl))
      (pss_one (ps_if (pt_not (pt_val (pe_cd D_l_good (hr.mono (by decide)) pass0 (pa_cons (pv 0) (pa_cons (pv 3) pa_nil)))))
      (pss_one (ps_ret pe_bl))
      pss_nil)))
      (pss_one (ps_ret pe_bl)))), ?_⟩
    refine ⟨_, rfl, .ref a, .ty "tuple", .type "tuple", .type "tuple", true, rfl, .ty "tuple", .base (.tup ha), kit_ty (by decide +kernel), _, rfl, ?_⟩
    refine iteF ?_
    refine ⟨_, rfl, a, vs, rfl, .inr (SqT.of ha), _, rfl, rfl, ?_⟩
    refine ⟨_, rfl, ?_⟩
    have e : decide (V.int (vs.length : Int) = V.int (n : Int)) = true := decide_eq_true (by rw [al.len, hl])
    rw [e]
    refine iteF ?_
    refine ⟨_, rfl, a, rfl, ⟨_, SqT.of ha⟩, ?_⟩
    refine for_tup (K := K) (a := a) (xs := vs) (fun i σ H1 => H1 = H ∧ ∃ it, σ = [some (.int (Fd.p α)), some (.ref a), some (.int (n : Nat)), it]) ⟨rfl, none, rfl⟩ (fun i σ H1 _ q => by rw [q.1]; exact SqT.of ha) (fun i x σ H1 hx q => ?_) (fun σ H1 q => ?_)
    · obtain ⟨rfl, it, rfl⟩ := q
      obtain ⟨X1, hX1, rX⟩ := al.get hx
      refine ⟨_, rfl, _, rfl, x, X1, rfl, rX, _, rfl, ?_⟩
      refine iteF ?_
      exact ⟨rfl, _, rfl⟩
    · obtain ⟨rfl, it, rfl⟩ := q
      exact k
def spGoodRows (α : Type) [Rp α] : Sp := fun vs H Q _ => ∃ (v : V) (rows : List (List α)) (n m : Nat), vs = [.int (Fd.p α), v, .int (n : Nat), .int (m : Nat)] ∧ RwsU H v rows ∧ rows.length = n ∧ (∀ r ∈ rows, r.length = m) ∧ Q (.bl true) H
theorem ok_l_good_rows {f : Addr} {fd : FuncData} (F : Fun K "_law_good_rows" "_law_good_rows" s_l_good_rows f fd) (T : Blt mg) (D_l_good_row : Dfn P w K mg base CX0 3 "_law_good_row" ["_law_p", "_law_row", "_law_width"] (spGoodRow α)) :
    FnOk P w K mg base CX0 4 f fd ["_law_p", "_law_rows_here", "_law_many", "_law_width"] (spGoodRows α) := by
  refine F.ok sc_l_good_rows (fun vs H Q E h => ?_) (fun cdv A outer s H vs Q E hr h => ?_)
  · obtain ⟨v, rows, n, m, rfl, _⟩ := h
    rfl
  · obtain ⟨v, rows, n, m, rfl, ⟨a, vs, rfl, ha, al⟩, hl, hw, k⟩ := h
    refine ⟨_, (pss_cons (ps_if (PW.pt (pw_or (pt_not (pt_val (pe_callB (call_isiK' (K := K) rfl) (by rfl) T.isinstance (by decide +kernel) (pa_cons (pv 1) (pa_cons (pe_bltn (v := .ty "tuple") (by rfl) T.tuple (by decide +kernel) rfl) pa_nil))))) (pw_or1 (pt_cmpR op_ne (pe_callB (call_lenK (K := K) rfl) (by rfl) T.len PySem.boot_len (pa_cons (pv 1) pa_nil)) (pv 2) (nomark _)))))
      (pss_one (ps_ret pe_bl))
      pss_nil)
      (pss_cons (ps_for PassesOwn.never rfl (pi_tupK (K := K) rfl (pv 1)) (pg_name (i := 4) sc_l_good_rows.nd rfl (by first | exact Or.inl rfl | exact Or.inr rfl))
      (pss_one (ps_if (pt_not (pt_val (pe_cd D_l_good_row (hr.mono (by decide)) pass0 (pa_cons (pv 0) (pa_cons (pv 4) (pa_cons (pv 3) pa_nil))))))
      (pss_one (ps_ret pe_bl))
      pss_nil)))
      (pss_one (ps_ret pe_bl)))), ?_⟩
    refine ⟨_, rfl, .ref a, .ty "tuple", .type "tuple", .type "tuple", true, rfl, .ty "tuple", .base (.tup ha), kit_ty (by decide +kernel), _, rfl, ?_⟩
    refine iteF ?_
    refine ⟨_, rfl, a, vs, rfl, .inr (SqT.of ha), _, rfl, rfl, ?_⟩
    refine ⟨_, rfl, ?_⟩
    have e : decide (V.int (vs.length : Int) = V.int (n : Int)) = true := decide_eq_true (by rw [al.len, hl])
    rw [e]
    refine iteF ?_
    refine ⟨_, rfl, a, rfl, ⟨_, SqT.of ha⟩, ?_⟩
    refine for_tup (K := K) (a := a) (xs := vs) (fun i σ H1 => H1 = H ∧ ∃ it, σ = [some (.int (Fd.p α)), some (.ref a), some (.int (n : Nat)), some (.int (m : Nat)), it]) ⟨rfl, none, rfl⟩ (fun i σ H1 _ q => by rw [q.1]; exact SqT.of ha) (fun i x σ H1 hx q => ?_) (fun σ H1 q => ?_)
    · obtain ⟨rfl, it, rfl⟩ := q
      obtain ⟨X1, hX1, rX⟩ := al.get hx
      refine ⟨_, rfl, _, rfl, _, rfl, x, X1, m, rfl, rX, hw X1 (List.mem_of_getElem? hX1), _, rfl, ?_⟩
      refine iteF ?_
      exact ⟨rfl, _, rfl⟩
    · obtain ⟨rfl, it, rfl⟩ := q
      exact k
/-! ### the law's sum -/
/-- rows, list or tuple of lists or tuples -/
def RwsG (H : Hp) (v : V) (rows : List (List α)) : Prop := ∃ (a : Addr) (vs : List V), v = .ref a ∧ (H a = some (.lst vs) ∨ H a = some (.tup vs)) ∧ Al (RowS H) vs rows
theorem Rws.g {H : Hp} {v : V} {rows : List (List α)} (h : Rws H v rows) : RwsG H v rows := by
  obtain ⟨a, vs, e, h1, h2⟩ := h
  exact ⟨a, vs, e, .inl h1, h2⟩
theorem RwsU.g {H : Hp} {v : V} {rows : List (List α)} (h : RwsU H v rows) : RwsG H v rows := by
  obtain ⟨a, vs, e, h1, h2⟩ := h
  exact ⟨a, vs, e, .inr h1, h2.mono fun _ _ r => r.s⟩
theorem RwsG.same {H H' : Hp} {v : V} {rows : List (List α)} (t : Same H H') (h : RwsG H v rows) : RwsG H' v rows := by
  obtain ⟨a, vs, e, h1, h2⟩ := h
  exact ⟨a, vs, e, h1.elim (fun q => .inl (t _ _ q)) (fun q => .inr (t _ _ q)), h2.mono fun _ _ r => r.same t⟩
/-- row[i], a list or a tuple -/
theorem rowS_at {H : Hp} {v : V} {xs : List α} {i : Nat} (h : RowS H v xs) (hi : i < xs.length) : ∃ (a : Addr) (vs : List V) (u : V), v = .ref a ∧ (SqL K H a vs ∨ SqT K H a vs) ∧ atI vs (i : Int) = some u ∧ rep H u (fn xs i) := by
  obtain ⟨a, vs, rfl, ha, al⟩ := h
  obtain ⟨u, hu, r⟩ := al.at (i := i) (x := fn xs i) (by rw [fn_lt hi]; exact List.getElem?_eq_getElem hi)
  exact ⟨a, vs, u, rfl, ha.elim (fun q => .inl (SqL.of q)) (fun q => .inr (SqT.of q)), atI_nat hu, r⟩
theorem rows_at {H : Hp} {v : V} {rows : List (List α)} {k : Nat} (h : RwsG H v rows) (hk : k < rows.length) : ∃ (a : Addr) (vs : List V) (u : V), v = .ref a ∧ (SqL K H a vs ∨ SqT K H a vs) ∧ atI vs (k : Int) = some u ∧ RowS H u (rows.getD k []) := by
  obtain ⟨a, vs, rfl, ha, al⟩ := h
  obtain ⟨u, hu, r⟩ := al.at (i := k) (x := rows.getD k []) (by rw [getD_lt hk]; exact List.getElem?_eq_getElem hk)
  exact ⟨a, vs, u, rfl, ha.elim (fun q => .inl (SqL.of q)) (fun q => .inr (SqT.of q)), atI_nat hu, r⟩
theorem ix_of {H : Hp} {a : Addr} {vs : List V} {i : Int} {u : V} {Q : VK} (hs : SqL K H a vs ∨ SqT K H a vs) (hu : atI vs i = some u) (q : Q u H) : rIx K (.ref a) (.int i) H Q :=
  hs.elim (fun h => .inl ⟨a, vs, i, u, rfl, rfl, h, hu, q⟩) fun h => .inr (.inl ⟨a, vs, i, u, rfl, rfl, h, hu, q⟩)
/-- range(n) -/
theorem walk_r0 {n : Nat} : Walk (Itr 0 n) n (fun _ => True) (YFn fun i => .int (i : Nat)) :=
  walk_range.mono (fun _ h => h) fun i H x H' _ _ y => ⟨y.1, y.2.trans (by show V.int (0 + (i : Int)) = _; rw [Int.zero_add])⟩
def spLSum (α : Type) [Rp α] : Sp := fun vs H Q _ => ∃ (v1 v2 : V) (ws : List α) (rows : List (List α)) (wd : Nat), vs = [.int (Fd.p α), v1, v2, .int (wd : Nat)] ∧ RowS H v1 ws ∧ RwsG H v2 rows ∧ ws.length = rows.length ∧ wd ≤ 1000 ∧ rows.length ≤ 1000 ∧
  (∀ r ∈ rows, r.length = wd) ∧ SumOk ws rows wd ∧ ∀ v H', Same H H' → Row H' v (lawSum ws rows wd) → Q v H'
theorem ok_l_sum {f : Addr} {fd : FuncData} (F : Fun K "_law_sum" "_law_sum" s_l_sum f fd) (T : Blt mg) (L : LKit P w K mg base α) :
    FnOk P w K mg base CX0 4 f fd ["_law_p", "_law_weights", "_law_rows_here", "_law_width"] (spLSum α) := by
  have D_l_some := L.some_
  have D_l_plus := L.plus
  have D_l_times := L.times
  refine F.ok sc_l_sum (fun vs H Q E h => ?_) (fun cdv A outer s H vs Q E hr h => ?_)
  · obtain ⟨v1, v2, ws, rows, wd, rfl, _⟩ := h
    rfl
  · obtain ⟨v1, v2, ws, rows, wd, rfl, hW, hR, hl, hwd, hrn, hw, ok, k⟩ := h
    refine ⟨_, (pss_cons (ps_set (i := 4) sc_l_sum.nd rfl (by first | exact Or.inl rfl | exact Or.inr rfl) (pe_lc (own := [("_law_k", 5)]) (g := (gName 5)) (tt := tYes) rfl sc_l_sum.nd (pi_range1 rfl T.range (pa_cons (pv 3) pa_nil)) (blkOk_by (own := [("_law_k", 5)]) (N := ["_law_p", "_law_weights", "_law_rows_here", "_law_width", "_law_total", "_law_k", "_law_i"]) (sc := (defScope s_l_sum)) (by decide +kernel)) (fun _ _ _ _ _ => pg_name (i := 5) sc_l_sum.nd rfl (by first | exact Or.inl rfl | exact Or.inr rfl)) (fun _ _ _ _ _ => pts_nil) (fun _ _ _ _ _ => (pe_cd D_l_some (hr.mono (by decide)) pass0 (pa_cons (pv 0) (pa_cons pe_int pa_nil))))))
      (pss_cons (ps_for PassesOwn.never rfl (pi_range1 rfl T.range (pa_cons (pe_callB (call_lenK (K := K) rfl) (by rfl) T.len PySem.boot_len (pa_cons (pv 2) pa_nil)) pa_nil)) (pg_name (i := 5) sc_l_sum.nd rfl (by first | exact Or.inl rfl | exact Or.inr rfl))
      (pss_one (ps_set (i := 4) sc_l_sum.nd rfl (by first | exact Or.inl rfl | exact Or.inr rfl) (pe_lc (own := [("_law_i", 6)]) (g := (gName 6)) (tt := tYes) rfl sc_l_sum.nd (pi_range1 rfl T.range (pa_cons (pv 3) pa_nil)) (blkOk_by (own := [("_law_i", 6)]) (N := ["_law_p", "_law_weights", "_law_rows_here", "_law_width", "_law_total", "_law_k", "_law_i"]) (sc := (defScope s_l_sum)) (by decide +kernel)) (fun _ _ _ _ _ => pg_name (i := 6) sc_l_sum.nd rfl (by first | exact Or.inl rfl | exact Or.inr rfl)) (fun _ _ _ _ _ => pts_nil) (fun _ _ _ _ _ => (pe_cd D_l_plus (hr.mono (by decide)) pass0 (pa_cons (pv 0) (pa_cons (pe_ix (ix_seqK (K := K) rfl) (pv 4) (pv 6) (fun _ _ => rfl)) (pa_cons (pe_cd D_l_times (hr.mono (by decide)) pass0 (pa_cons (pv 0) (pa_cons (pe_ix (ix_seqK (K := K) rfl) (pv 1) (pv 5) (fun _ _ => rfl)) (pa_cons (pe_ix (ix_seqK (K := K) rfl) (pe_ix (ix_seqK (K := K) rfl) (pv 2) (pv 5) (fun _ _ => rfl)) (pv 6) (fun _ _ => rfl)) pa_nil)))) pa_nil)))))))))
      (pss_one (ps_ret (pe_callTy (call_tupK (K := K) rfl) (by rfl) T.tuple (by decide +kernel) (pa_cons (pv 4) pa_nil)))))), ?_⟩
    obtain ⟨wa, wvs, ew, _⟩ := id hW
    obtain ⟨rp, rvs, er, hrp, ar⟩ := id hR
    subst ew; subst er
    have lrow : (sumTo ws rows wd 0 : List α) = List.replicate wd 0 := sumTo_zero
    refine ⟨_, rfl, (wd : Int), rfl, by omega, by omega, fun D hD => ?_⟩
    refine lc_dat (walk_r0 (n := ((wd : Nat) : Int).toNat)) (sumTo ws rows wd 0 : List α) rep (by rw [sumTo_len]; omega) (by omega) hD rep_m1 rep_m2 (fun H1 s => trivial) (fun i x H1 H' e hi he s _ y Nx kk => ?_) (fun H1 acc s1 hacc al => ?_)
    · obtain ⟨rfl, rfl⟩ := y
      have eq : e = 0 := by
        rw [sumTo_zero] at he
        exact (List.mem_replicate.mp (List.mem_of_getElem? he)).2
      refine ⟨rfl, ?_⟩
      refine ⟨_, rfl, 0, rfl, .inl rfl, fun v H' s' r => kk v H' ?_ s'⟩
      rw [num_cases.1] at r
      rw [eq]; exact r
    · have hrl := ar.len
      refine ⟨_, rfl, rp, rvs, rfl, (hrp.elim (fun q => .inl (SqL.of (s1 _ _ q))) fun q => .inr (SqT.of (s1 _ _ q))), (rvs.length : Int), rfl, by omega, by omega, ?_⟩
      refine for_it (walk_r0 (n := ((rvs.length : Nat) : Int).toNat)) (fun i σ H1 => Same H H1 ∧ ∃ (t : Addr) (tvs : List V) (kk ii : Option V), σ = [some (.int (Fd.p α)), some (.ref wa), some (.ref rp), some (.int (wd : Nat)), some (.ref t), kk, ii] ∧ H1 t = some (.lst tvs) ∧ Al (rep H1) tvs (sumTo ws rows wd i))
        ⟨s1, D, acc, none, none, rfl, hacc, al⟩ (fun i σ H1 _ q => trivial) (fun i x σ H1 H' hi q y => ?_) (fun σ H1 q => ?_)
      · obtain ⟨s2, t, tvs, kv, iv, rfl, ht, at_⟩ := q
        obtain ⟨rfl, rfl⟩ := y
        have hi' : i < rows.length := by omega
        refine ⟨_, rfl, (wd : Int), rfl, by omega, by omega, fun D2 hD2 => ?_⟩
        refine lc_dat (walk_r0 (n := ((wd : Nat) : Int).toNat)) (sumTo ws rows wd (i + 1) : List α) rep (by rw [sumTo_len]; omega) (by omega) hD2 rep_m1 rep_m2 (fun H1 s => trivial) (fun j x H2 H3 e hj he s3 _ y Nx kk => ?_) (fun H2 acc2 s3 hacc2 al2 => ?_)
        · obtain ⟨rfl, rfl⟩ := y
          have hj' : j < wd := by omega
          have eq : e = fn (sumTo ws rows wd i) j + fn ws i * fn (rows.getD i []) j := by
            rw [sumTo_succ, List.getElem?_map, List.getElem?_range hj'] at he
            exact (Option.some.inj he).symm
          have s4 := s2.trans s3
          obtain ⟨wa', wvs', wu, ew', hwa, hwu, rwu⟩ := rowS_at (K := K) (hW.same s4) (i := i) (by omega)
          cases ew'
          obtain ⟨rp', rvs', ru, er', hrp', hru, rru⟩ := rows_at (K := K) (hR.same s4) (k := i) hi'
          cases er'
          obtain ⟨ra, rus, u, erow, hra, hu, ru2⟩ := rowS_at (K := K) rru (i := j) (by rw [hw _ (getD_mem hi')]; exact hj')
          subst erow
          obtain ⟨tu, htu, rtu⟩ := (at_.mono fun _ _ r => rep_ts (Tk.of s3) r : Al (rep H3) tvs (sumTo ws rows wd i)).at (i := j) (x := fn (sumTo ws rows wd i) j) (by rw [fn_lt (by rw [sumTo_len]; exact hj')]; exact List.getElem?_eq_getElem (by rw [sumTo_len]; exact hj'))
          refine ⟨rfl, ?_⟩
          refine ⟨_, rfl, _, rfl, _, rfl, ix_of (.inl (SqL.of (s3 _ _ ht))) (atI_nat htu) ?_⟩
          refine ⟨_, rfl, _, rfl, _, rfl, ix_of hwa hwu ?_⟩
          refine ⟨_, rfl, _, rfl, ix_of hrp' hru ?_⟩
          refine ⟨_, rfl, ix_of hra hu ?_⟩
          refine ⟨wu, u, fn ws i, fn (rows.getD i []) j, rfl, rwu, ru2, ok.hw i, ok.hr i j hi', trivial, fun v5 H5 s5 r5 => ?_⟩
          refine ⟨tu, v5, fn (sumTo ws rows wd i) j, fn ws i * fn (rows.getD i []) j, rfl, rep_m1 s5 rtu, r5, ok.ht i j (by omega), ok.hp i j hi', trivial, fun v6 H6 s6 r6 => ?_⟩
          refine kk v6 H6 ?_ (s5.trans s6)
          rw [eq]; exact r6
        · exact ⟨s2.trans s3, D2, acc2, _, _, rfl, hacc2, al2⟩
      · obtain ⟨s2, t, tvs, kv, iv, rfl, ht, at_⟩ := q
        refine ⟨_, rfl, t, tvs, rfl, .inl ⟨SqL.of ht, fun l hl => k _ _ (s2.trans (Same.new hl)) ⟨l, tvs, rfl, upd_same, ?_⟩⟩⟩
        rw [lawSum_to]
        have e : ((rvs.length : Nat) : Int).toNat = rows.length := by omega
        rw [e] at at_
        exact al_ts (Tk.new hl) at_
end
end W26

end

/-! ## WLRank -/
section
set_option Elab.async false
set_option linter.all false
set_option maxRecDepth 100000
set_option maxHeartbeats 8000000
/-! The law's rank. -/
namespace M26
section
variable {α : Type} [Fl α]
theorem pivot_at {left : List (List α)} {r c a : Nat} (ha : a < left.length) (hra : r ≤ a) (hz : ∀ k, r ≤ k → k < a → fn (left.getD k []) c = 0) (hn : fn (left.getD a []) c ≠ 0) : pivot left r c = some a := by
  unfold pivot
  rw [List.find?_range_eq_some]
  refine ⟨?_, List.mem_range.mpr ha, fun j hj => ?_⟩
  · show (decide (r ≤ a) && decide (fn (left.getD a []) c ≠ 0)) = true
    rw [decide_eq_true hra, decide_eq_true hn]; rfl
  · show (!(decide (r ≤ j) && decide (fn (left.getD j []) c ≠ 0))) = true
    by_cases h : r ≤ j
    · rw [decide_eq_false (p := fn (left.getD j []) c ≠ 0) (fun z => z (hz j h hj)), Bool.and_false]; rfl
    · rw [decide_eq_false h]; rfl
theorem pivot_no {left : List (List α)} {r c : Nat} (hz : ∀ k, r ≤ k → k < left.length → fn (left.getD k []) c = 0) : pivot left r c = none := by
  cases e : pivot left r c with
  | none => rfl
  | some a =>
    obtain ⟨h1, h2, h3⟩ := pivot_some e
    exact absurd (hz a h2 h1) h3
/-- the sweep so far: the rows below j -/
def part (w c r : Nat) (lead : List α) (left : List (List α)) (j : Nat) : List (List α) := left.mapIdx fun k row => if r < k ∧ k < j then lessLead w c lead row else row
theorem part_len {w c r j : Nat} {lead : List α} {left : List (List α)} : (part w c r lead left j).length = left.length := by unfold part; rw [List.length_mapIdx]
theorem part_get {w c r j i : Nat} {lead : List α} {left : List (List α)} : (part w c r lead left j)[i]? = left[i]?.map fun row => if r < i ∧ i < j then lessLead w c lead row else row := by
  unfold part
  rw [List.getElem?_mapIdx]
theorem part_first {w c r : Nat} {lead : List α} {left : List (List α)} : part w c r lead left (r + 1) = left := by
  refine List.ext_getElem? fun i => ?_
  rw [part_get]
  cases left[i]? with
  | none => rfl
  | some x => rw [Option.map_some, if_neg (by omega)]
theorem part_all {w c r : Nat} {lead : List α} {left : List (List α)} : part w c r lead left left.length = swept w c r lead left := by
  refine List.ext_getElem? fun i => ?_
  rw [part_get]
  unfold swept
  rw [List.getElem?_mapIdx]
  cases e : left[i]? with
  | none => rfl
  | some x =>
    have hi := (List.getElem?_eq_some_iff.mp e).1
    rw [Option.map_some, Option.map_some]
    by_cases h : r < i
    · rw [if_pos ⟨h, hi⟩, if_pos h]
    · rw [if_neg (fun z => h z.1), if_neg h]
theorem part_at {w c r j : Nat} {lead : List α} {left : List (List α)} (hj : j < left.length) : (part w c r lead left j).getD j [] = left.getD j [] := by
  rw [List.getD_eq_getElem?_getD, List.getD_eq_getElem?_getD, part_get]
  cases left[j]? with
  | none => rfl
  | some x => rw [Option.map_some, if_neg (by omega)]
theorem part_next {w c r j : Nat} {lead : List α} {left : List (List α)} (hr : r < j) (hj : j < left.length) : part w c r lead left (j + 1) = (part w c r lead left j).set j (lessLead w c lead (left.getD j [])) := by
  refine List.ext_getElem? fun i => ?_
  rw [List.getElem?_set, part_get, part_get, part_len]
  by_cases h : j = i
  · subst h
    rw [if_pos rfl, if_pos hj, List.getElem?_eq_getElem hj, Option.map_some, if_pos ⟨hr, by omega⟩, getD_lt hj]
  · rw [if_neg h]
    cases left[i]? with
    | none => rfl
    | some x =>
      rw [Option.map_some, Option.map_some]
      by_cases h3 : r < i ∧ i < j
      · rw [if_pos h3, if_pos ⟨h3.1, by omega⟩]
      · rw [if_neg h3, if_neg (fun z => h3 ⟨z.1, by omega⟩)]
/-- the places of a turn -/
structure TOk (w m c : Nat) (s : List (List α) × Nat) : Prop where
  len : s.1.length = m
  wid : ∀ r ∈ s.1, r.length = w
  le : s.2 ≤ m
  lc : s.2 ≤ c
theorem swapped_mem {left : List (List α)} {r a : Nat} (hr : r < left.length) (ha : a < left.length) {x : List α} (h : x ∈ swapped left r a) : x ∈ left := by
  unfold swapped at h
  rcases List.mem_or_eq_of_mem_set h with h | h
  · rcases List.mem_or_eq_of_mem_set h with h | h
    · exact h
    · rw [h]; exact getD_mem hr
  · rw [h]; exact getD_mem ha
theorem TOk.turn {w m c : Nat} {s : List (List α) × Nat} (h : TOk w m c s) : TOk w m (c + 1) (lawTurn w s c) := by
  unfold lawTurn
  cases e : pivot s.1 s.2 c with
  | none => exact ⟨h.len, h.wid, h.le, Nat.le_succ_of_le h.lc⟩
  | some a =>
    obtain ⟨ha, hra, hne⟩ := pivot_some e
    have hr : s.2 < s.1.length := by omega
    refine ⟨by show (swept _ _ _ _ _).length = m; rw [swept_len, swapped_len]; exact h.len, fun r hr2 => ?_, by show s.2 + 1 ≤ m; have := h.len; omega, by show s.2 + 1 ≤ c + 1; have := h.lc; omega⟩
    obtain ⟨k, hk, ek⟩ := List.getElem_of_mem hr2
    have hk' : k < (swapped s.1 s.2 a).length := by
      have : k < (swept w c s.2 (s.1.getD a []) (swapped s.1 s.2 a)).length := hk
      rw [swept_len] at this; exact this
    have e2 : r = (swept w c s.2 (s.1.getD a []) (swapped s.1 s.2 a)).getD k [] := by rw [getD_lt hk]; exact ek.symm
    rw [e2, swept_getD hk']
    by_cases q : s.2 < k
    · rw [if_pos q, lessLead_len]
    · rw [if_neg q]; exact h.wid _ (swapped_mem hr ha (getD_mem hk'))
def turns (w : Nat) (rows : List (List α)) (c : Nat) : List (List α) × Nat := (List.range c).foldl (lawTurn w) (rows, 0)
theorem turns_succ {w c : Nat} {rows : List (List α)} : turns w rows (c + 1) = lawTurn w (turns w rows c) c := by
  unfold turns
  rw [List.range_succ, List.foldl_append]; rfl
theorem turns_ok {w : Nat} {rows : List (List α)} (hw : ∀ r ∈ rows, r.length = w) : ∀ c, TOk w rows.length c (turns w rows c)
  | 0 => ⟨rfl, hw, Nat.zero_le _, Nat.le_refl _⟩
  | c + 1 => by rw [turns_succ]; exact (turns_ok hw c).turn
theorem turns_rank {w : Nat} {rows : List (List α)} (hw : ∀ r ∈ rows, r.length = w) (hne : rows ≠ []) : lawRank rows = (turns w rows w).2 := by
  unfold lawRank turns
  cases rows with
  | nil => exact absurd rfl hne
  | cons r0 rest =>
    have e0 : ((r0 :: rest).getD 0 []).length = w := hw r0 List.mem_cons_self
    rw [e0]
end
section
variable {α : Type} [Fd α]
theorem turns_cf {w B : Nat} {rows : List (List α)} (h : LB B rows) : ∀ c, LB (it (turns w rows c).2 B) (turns w rows c).1
  | 0 => h
  | c + 1 => by rw [turns_succ]; exact lawTurn_cf (turns_cf h c)
theorem it5 {k B : Nat} (hk : k ≤ 5) (hB : B ≤ 64) : 2 * it k B ≤ 4500 := by have := Nat.le_trans (it_mono hk hB) (show it 5 64 ≤ 2079 by decide); omega
end
end M26
namespace W26
open PySem L2 M26
open Rp
section
variable {P : Program} {w : World} {K : PySem.W.Frag} {mg : Str → Option Value} {base : Heap} {α : Type} [Rp α]
abbrev s_l_rank : Stmt := topS 46
theorem sc_l_rank : FnScope ["_law_p", "_law_rows_here", "_law_left", "_law_rank_here", "_law_width", "_law_place", "_law_at", "_law_lead", "_law_k", "_law_factor", "_law_row", "_law_i"] ["_law_p", "_law_rows_here"] (defScope s_l_rank) :=
  ⟨rfl, rfl, rfl, by decide +kernel, rfl, by decide +kernel, by decide +kernel⟩
theorem ixN_at {n j : Nat} (hj : j < n) : ixN n (j : Int) = some j := by
  unfold ixN
  rw [if_pos (by omega), if_pos (by omega)]
  simp
theorem walk_from {r n : Nat} : Walk (Itr ((r : Int) + 1) n) n (fun _ => True) (YFn fun i => .int ((r + 1 + i : Nat) : Int)) :=
  walk_range.mono (fun _ h => h) fun i H x H' _ _ y => ⟨y.1, y.2.trans (by show V.int ((r : Int) + 1 + (i : Int)) = _; rw [show (r : Int) + 1 + (i : Int) = ((r + 1 + i : Nat) : Int) by omega])⟩
theorem upd_upd {H : Hp} {a : Addr} {o u : HO} : upd (upd H a o) a u = upd H a u := by
  funext b
  by_cases h : b = a
  · rw [h, upd_same, upd_same]
  · rw [upd_ne h, upd_ne h, upd_ne h]
/-- a row that stands in the list at L, itself a list -/
def RowL (L : Addr) (H : Hp) (v : V) (xs : List α) : Prop := ∃ (a : Addr) (vs : List V), v = .ref a ∧ a ≠ L ∧ H a = some (.lst vs) ∧ Al (rep H) vs xs
theorem RowL.same {L : Addr} {H H' : Hp} {v : V} {xs : List α} (s : Same H H') (h : RowL L H v xs) : RowL L H' v xs := by
  obtain ⟨a, vs, e, n, h1, h2⟩ := h
  exact ⟨a, vs, e, n, s _ _ h1, al_ts (Tk.of s) h2⟩
theorem RowL.mut {L : Addr} {H : Hp} {v : V} {xs : List α} {l l' : List V} (hL : H L = some (.lst l)) (h : RowL L H v xs) : RowL L (upd H L (.lst l')) v xs := by
  obtain ⟨a, vs, e, n, h1, h2⟩ := h
  exact ⟨a, vs, e, n, by rw [upd_ne n]; exact h1, al_ts (Tk.lst hL) h2⟩
theorem RowL.s {L : Addr} {H : Hp} {v : V} {xs : List α} (h : RowL L H v xs) : RowS H v xs := by
  obtain ⟨a, vs, e, n, h1, h2⟩ := h
  exact ⟨a, vs, e, .inl h1, h2⟩
def spLRank (α : Type) [Rp α] : Sp := fun vs H Q _ => ∃ (vr : V) (rows : List (List α)) (wd B : Nat), vs = [.int (Fd.p α), vr] ∧ Rws H vr rows ∧ (∀ r ∈ rows, r.length = wd) ∧ wd ≤ 6 ∧ rows.length ≤ 1000 ∧ B ≤ 64 ∧ LB B rows ∧
  ∀ H', Same H H' → Q (.int (lawRank rows : Nat)) H'
theorem ok_l_rank {f : Addr} {fd : FuncData} (F : Fun K "_law_rank" "_law_rank" s_l_rank f fd) (T : Blt mg) (L : LKit P w K mg base α) :
    FnOk P w K mg base CX0 5 f fd ["_law_p", "_law_rows_here"] (spLRank α) := by
  have D_l_plus := L.plus
  have D_l_times := L.times
  have D_l_minus := L.minus
  have D_l_over := L.over
  have D_l_nought := L.nought
  refine F.ok sc_l_rank (fun vs H Q E h => ?_) (fun cdv A outer s H vs Q E hr h => ?_)
  · obtain ⟨vr, rows, wd, B, rfl, _⟩ := h
    rfl
  · obtain ⟨vr, rows, wd, B, rfl, ⟨rp, rvs, rfl, hrp, ar⟩, hw, hwd, hrn, hB, hcf, k⟩ := h
    refine ⟨_, (pss_cons (ps_setLc (i := 2) (own := [("_law_row", 10)]) (g := (gName 10)) (tt := tYes) rfl sc_l_rank.nd rfl rfl (sw_true rfl rfl rfl (by decide +kernel)) (pi_lstK (K := K) rfl (pv 1)) (blkOk_by (own := [("_law_row", 10)]) (N := ["_law_p", "_law_rows_here", "_law_left", "_law_rank_here", "_law_width", "_law_place", "_law_at", "_law_lead", "_law_k", "_law_factor", "_law_row", "_law_i"]) (sc := (defScope s_l_rank)) (by decide +kernel)) (fun _ _ _ _ _ => pg_name (i := 10) sc_l_rank.nd rfl (by first | exact Or.inl rfl | exact Or.inr rfl)) (fun _ _ _ _ _ => pts_nil) (fun _ _ _ _ _ => (pe_callTy (call_lstK (K := K) rfl) (by rfl) T.list (by decide +kernel) (pa_cons (pv 10) pa_nil))))
      (pss_cons (ps_set (i := 3) sc_l_rank.nd rfl (by first | exact Or.inl rfl | exact Or.inr rfl) pe_int)
      (pss_cons (ps_set (i := 4) sc_l_rank.nd rfl (by first | exact Or.inl rfl | exact Or.inr rfl) pe_int)
      (pss_cons (ps_if (pt_truth (pv 2) (by intro _; rfl))
      (pss_one (ps_set (i := 4) sc_l_rank.nd rfl (by first | exact Or.inl rfl | exact Or.inr rfl) (pe_callB (call_lenK (K := K) rfl) (by rfl) T.len PySem.boot_len (pa_cons (pe_ix (ix_lstK (K := K) rfl) (pv 2) pe_int (fun _ _ => rfl)) pa_nil))))
      pss_nil)
      (pss_cons (ps_for PassesOwn.never rfl (pi_range1 rfl T.range (pa_cons (pv 4) pa_nil)) (pg_name (i := 5) sc_l_rank.nd rfl (by first | exact Or.inl rfl | exact Or.inr rfl))
      (pss_cons (ps_set (i := 6) sc_l_rank.nd rfl (by first | exact Or.inl rfl | exact Or.inr rfl) (pv 3))
      (pss_cons (ps_while PassesOwn.never (PW.pt (pw_and (pt_cmpR op_lt (pv 6) (pe_callB (call_lenK (K := K) rfl) (by rfl) T.len PySem.boot_len (pa_cons (pv 2) pa_nil)) (nomark _)) (pw_and1 (pt_val (pe_cd D_l_nought (hr.mono (by decide)) pass0 (pa_cons (pv 0) (pa_cons (pe_ix (ix_lstK (K := K) rfl) (pe_ix (ix_lstK (K := K) rfl) (pv 2) (pv 6) (fun _ _ => rfl)) (pv 5) (fun _ _ => rfl)) pa_nil)))))))
      (pss_one (ps_set (i := 6) sc_l_rank.nd rfl (by first | exact Or.inl rfl | exact Or.inr rfl) (pe_op op_add (pv 6) pe_int))))
      (pss_one (ps_if (pt_cmpR op_lt (pv 6) (pe_callB (call_lenK (K := K) rfl) (by rfl) T.len PySem.boot_len (pa_cons (pv 2) pa_nil)) (nomark _))
      (pss_cons (ps_set (i := 7) sc_l_rank.nd rfl (by first | exact Or.inl rfl | exact Or.inr rfl) (pe_ix (ix_lstK (K := K) rfl) (pv 2) (pv 6) (fun _ _ => rfl)))
      (pss_cons (ps_asg (pe_ix (ix_lstK (K := K) rfl) (pv 2) (pv 3) (fun _ _ => rfl)) (pg_sub (pv 2) (pv 6) set_list))
      (pss_cons (ps_asg (pv 7) (pg_sub (pv 2) (pv 3) set_list))
      (pss_cons (ps_for PassesOwn.never rfl (pi_range2 rfl T.range (pa_cons (pe_op op_add (pv 3) pe_int) (pa_cons (pe_callB (call_lenK (K := K) rfl) (by rfl) T.len PySem.boot_len (pa_cons (pv 2) pa_nil)) pa_nil))) (pg_name (i := 8) sc_l_rank.nd rfl (by first | exact Or.inl rfl | exact Or.inr rfl))
      (pss_cons (ps_set (i := 9) sc_l_rank.nd rfl (by first | exact Or.inl rfl | exact Or.inr rfl) (pe_cd D_l_minus (hr.mono (by decide)) pass0 (pa_cons (pv 0) (pa_cons (pe_cd D_l_over (hr.mono (by decide)) pass0 (pa_cons (pv 0) (pa_cons (pe_ix (ix_lstK (K := K) rfl) (pe_ix (ix_lstK (K := K) rfl) (pv 2) (pv 8) (fun _ _ => rfl)) (pv 5) (fun _ _ => rfl)) (pa_cons (pe_ix (ix_lstK (K := K) rfl) (pv 7) (pv 5) (fun _ _ => rfl)) pa_nil)))) pa_nil))))
      (pss_cons (ps_set (i := 10) sc_l_rank.nd rfl (by first | exact Or.inl rfl | exact Or.inr rfl) (pe_ix (ix_lstK (K := K) rfl) (pv 2) (pv 8) (fun _ _ => rfl)))
      (pss_one (ps_asg (pe_lc (own := [("_law_i", 11)]) (g := (gName 11)) (tt := tYes) rfl sc_l_rank.nd (pi_range1 rfl T.range (pa_cons (pv 4) pa_nil)) (blkOk_by (own := [("_law_i", 11)]) (N := ["_law_p", "_law_rows_here", "_law_left", "_law_rank_here", "_law_width", "_law_place", "_law_at", "_law_lead", "_law_k", "_law_factor", "_law_row", "_law_i"]) (sc := (defScope s_l_rank)) (by decide +kernel)) (fun _ _ _ _ _ => pg_name (i := 11) sc_l_rank.nd rfl (by first | exact Or.inl rfl | exact Or.inr rfl)) (fun _ _ _ _ _ => pts_nil) (fun _ _ _ _ _ => (pe_cd D_l_plus (hr.mono (by decide)) pass0 (pa_cons (pv 0) (pa_cons (pe_ix (ix_lstK (K := K) rfl) (pv 10) (pv 11) (fun _ _ => rfl)) (pa_cons (pe_cd D_l_times (hr.mono (by decide)) pass0 (pa_cons (pv 0) (pa_cons (pv 9) (pa_cons (pe_ix (ix_lstK (K := K) rfl) (pv 7) (pv 11) (fun _ _ => rfl)) pa_nil)))) pa_nil)))))) (pg_sub (pv 2) (pv 8) set_list))))))
      (pss_one (ps_set (i := 3) sc_l_rank.nd rfl (by first | exact Or.inl rfl | exact Or.inr rfl) (pe_op op_add (pv 3) pe_int)))))))
      pss_nil)))))
      (pss_one (ps_ret (pv 3)))))))), ?_⟩
    have hrl := ar.len
    refine ⟨_, rfl, rp, rfl, ⟨_, SqL.of hrp⟩, fun LL hL => ?_⟩
    refine lc_dat (walk_list (xs := rvs)) rows (RowL LL) hrl (by omega) hL RowL.same RowL.mut (fun H1 s => SqL.of (s _ _ hrp)) (fun i x H1 H' e hi he s1 ⟨acc, hacc⟩ y Nx kk => ?_) (fun H1 lvs s1 hlvs al => ?_)
    · obtain ⟨rfl, hx⟩ := y
      obtain ⟨R1, hR1, rR⟩ := ar.get hx
      obtain ⟨a, avs, rfl, ha, aa⟩ := rR.same s1
      rw [hR1] at he
      cases he
      refine ⟨rfl, ?_⟩
      exact ⟨_, rfl, a, avs, rfl, seq_of ha, fun l hl => kk _ _ ⟨l, avs, rfl, Ne.symm (ne_of_none hacc hl), upd_same, al_ts (Tk.new hl) aa⟩ (Same.new hl)⟩
    · have hll := al.len
      by_cases hne : rows = []
      · subst hne
        have l0 : lvs = [] := al.nil_iff.mpr rfl
        subst l0
        refine ⟨_, rfl, _, .inl ⟨[], SqL.of hlvs, rfl⟩, iteF ?_⟩
        refine ⟨_, rfl, (0 : Int), rfl, by decide, by decide, ?_⟩
        refine for_it (walk_r0 (n := ((0 : Int)).toNat)) (fun i σ H2 => H2 = H1 ∧ σ[3]? = some (some (.int 0))) ⟨rfl, rfl⟩ (fun i σ H1 _ q => trivial) (fun i x σ H1 H' hi q y => absurd hi (Nat.not_lt_zero i)) (fun σ H2 q => ?_)
        obtain ⟨rfl, q⟩ := q
        exact ⟨_, q, k _ s1⟩
      · have lne : lvs ≠ [] := fun z => hne (al.nil_iff.mp z)
        have emp : (!lvs.isEmpty) = true := by
          cases lvs with
          | nil => exact absurd rfl lne
          | cons a l => rfl
        have r0 : 0 < rows.length := List.length_pos_iff.mpr hne
        obtain ⟨u0, hu0, ⟨a0, us0, rfl, n0, ha0, aa0⟩⟩ := al.at (i := 0) (x := rows[0]) (List.getElem?_eq_getElem r0)
        refine ⟨_, rfl, _, .inl ⟨lvs, SqL.of hlvs, rfl⟩, ?_⟩
        rw [emp]
        refine iteT ?_
        have ew : us0.length = wd := by rw [aa0.len]; exact hw _ (List.getElem_mem r0)
        refine ⟨_, rfl, LL, lvs, 0, _, rfl, rfl, SqL.of hlvs, atI_nat (j := 0) hu0, a0, us0, rfl, .inl (SqL.of ha0), ?_⟩
        refine ⟨_, rfl, (us0.length : Int), rfl, by omega, by omega, ?_⟩
        rw [ew]
        refine for_it (walk_r0 (n := ((wd : Nat) : Int).toNat)) (fun c σ H2 => Same H H2 ∧ ∃ (lvs : List V) (x5 x6 x7 x8 x9 x10 x11 : Option V), σ = [some (.int (Fd.p α)), some (.ref rp), some (.ref LL), some (.int ((turns wd rows c).2 : Nat)), some (.int (wd : Nat)), x5, x6, x7, x8, x9, x10, x11] ∧
            H2 LL = some (.lst lvs) ∧ Al (RowL LL H2) lvs (turns wd rows c).1)
          ⟨s1, lvs, none, none, none, none, none, none, none, rfl, hlvs, al⟩ (fun i σ H1 _ q => trivial) (fun c x σ H2 H' hc q y => ?_) (fun σ H2 q => ?_)
        · obtain ⟨s2, lvs, x5, x6, x7, x8, x9, x10, x11, rfl, hl2, al2⟩ := q
          obtain ⟨rfl, rfl⟩ := y
          have hc' : c < wd := by omega
          have tok := turns_ok hw c
          have tcf := turns_cf (w := wd) hcf c
          have nxt := turns_succ (w := wd) (c := c) (rows := rows)
          have ll2 := al2.len
          generalize turns wd rows c = S at tok tcf nxt al2 ll2
          obtain ⟨st, r⟩ := S
          dsimp only at tcf al2 ll2
          have tl : st.length = rows.length := tok.len
          have tw : ∀ r ∈ st, r.length = wd := tok.wid
          have trc : r ≤ c := tok.lc
          have trm : r ≤ rows.length := tok.le
          refine ⟨_, rfl, ?_⟩
          refine wh (fun σ H3 => Same H' H3 ∧ ∃ at_ : Nat, σ = [some (.int (Fd.p α)), some (.ref rp), some (.ref LL), some (.int (r : Nat)), some (.int (wd : Nat)), some (.int (c : Nat)), some (.int (at_ : Nat)), x7, x8, x9, x10, x11] ∧ r ≤ at_ ∧ at_ ≤ st.length ∧ ∀ k, r ≤ k → k < at_ → fn (st.getD k []) c = 0)
            (fun σ _ => st.length - sec 6 σ) ⟨Same.refl H', r, rfl, Nat.le_refl _, by omega, fun k h1 h2 => by omega⟩ ?_ ?_
          · rintro σ H3 ⟨s3, at_, rfl, h1, h2, hz⟩
            have hl3 := s3 _ _ hl2
            have al3 : Al (RowL LL H3) lvs st := al2.mono fun _ _ q => q.same s3
            refine ⟨_, rfl, _, rfl, LL, lvs, rfl, .inl (SqL.of hl3), _, _, rfl, rfl, _, rfl, ?_⟩
            by_cases hlt : at_ < st.length
            · have hlt' : (at_ : Int) < (lvs.length : Int) := by omega
              rw [decide_eq_true hlt']
              refine iteT ?_
              have hmem := getD_mem (d := []) hlt
              obtain ⟨u, hu, ⟨au, aus, rfl, nu, hau, aau⟩⟩ := al3.at (i := at_) (x := st.getD at_ []) (by rw [getD_lt hlt]; exact List.getElem?_eq_getElem hlt)
              have hcw : c < (st.getD at_ []).length := by rw [tw _ hmem]; exact hc'
              obtain ⟨z, hz1, rz⟩ := aau.at (i := c) (x := fn (st.getD at_ []) c) (by rw [fn_lt hcw]; exact List.getElem?_eq_getElem hcw)
              refine ⟨_, rfl, _, rfl, _, rfl, LL, lvs, (at_ : Int), _, rfl, rfl, SqL.of hl3, atI_nat hu, _, rfl, au, aus, (c : Int), z, rfl, rfl, SqL.of hau, atI_nat hz1, ?_⟩
              refine ⟨z, fn (st.getD at_ []) c, rfl, rz, fun H4 s4 => ?_⟩
              have hl4 := s4 _ _ hl3
              have al4 : Al (RowL LL H4) lvs st := al3.mono fun _ _ q => q.same s4
              refine ⟨_, rfl, ?_⟩
              refine ite2 (fun cz => ?_) (fun cz => ?_)
              · have cz := of_decide_eq_true cz
                refine ⟨_, rfl, _, _, rfl, rfl, ⟨s3.trans s4, at_ + 1, rfl, by omega, by omega, fun k h3 h4 => ?_⟩, ?_⟩
                · by_cases hk : k < at_
                  · exact hz k h3 hk
                  · have : k = at_ := by omega
                    rw [this]; exact cz
                · show st.length - ((at_ : Int) + 1).natAbs < st.length - (at_ : Int).natAbs
                  omega
              · -- the pivot
                have cz : fn (st.getD at_ []) c ≠ 0 := fun z => cz (decide_eq_true z)
                have pv : pivot st r c = some at_ := pivot_at hlt h1 hz cz
                have hrl' : r < st.length := by omega
                refine ⟨_, rfl, _, rfl, LL, lvs, rfl, .inl (SqL.of hl4), _, _, rfl, rfl, _, rfl, ?_⟩
                rw [decide_eq_true hlt']
                refine iteT ?_
                obtain ⟨vr, hvr, rvr⟩ := al4.at (i := r) (x := st.getD r []) (by rw [getD_lt hrl']; exact List.getElem?_eq_getElem hrl')
                -- the swap
                refine ⟨_, rfl, _, rfl, LL, lvs, (at_ : Int), _, rfl, rfl, SqL.of hl4, atI_nat hu, ?_⟩
                refine ⟨_, rfl, _, rfl, LL, lvs, (r : Int), _, rfl, rfl, SqL.of hl4, atI_nat hvr, ?_⟩
                refine ⟨_, rfl, _, rfl, LL, lvs, (at_ : Int), at_, rfl, rfl, hl4, ixN_at (by omega), ?_⟩
                refine ⟨_, rfl, _, rfl, _, rfl, LL, _, (r : Int), r, rfl, rfl, upd_same, ixN_at (by rw [List.length_set]; omega), ?_⟩
                rw [upd_upd]
                have nL : H LL = none := hL
                have rlead : RowL LL H4 (.ref au) (st.getD at_ []) := ⟨au, aus, rfl, nu, s4 _ _ hau, al_ts (Tk.of s4) aau⟩
                have al5 : Al (RowL LL H4) ((lvs.set at_ vr).set r (.ref au)) (swapped st r at_) := (al4.set at_ rvr).set r rlead
                have lenS : (swapped st r at_).length = st.length := swapped_len
                -- the sweep
                have s5 : Same H (upd H4 LL (.lst ((lvs.set at_ vr).set r (.ref au)))) := Same.mut (s2.trans (s3.trans s4)) nL
                have ll5 : ((lvs.set at_ vr).set r (.ref au)).length = st.length := by rw [List.length_set, List.length_set]; exact ll2
                refine ⟨_, rfl, _, _, rfl, rfl, _, rfl, LL, _, rfl, .inl (SqL.of upd_same), _, _, rfl, ⟨by omega, by omega, by omega, by omega⟩, ?_⟩
                generalize hlead : st.getD at_ [] = lead at *
                generalize hsw : swapped st r at_ = sw at *
                have swm : ∀ x ∈ sw, x ∈ st := fun x hx => by rw [← hsw] at hx; exact swapped_mem hrl' hlt hx
                have leadw : lead.length = wd := tw _ hmem
                generalize hlv5 : ((lvs.set at_ vr).set r (.ref au)) = lv5 at *
                obtain ⟨n, hn⟩ : ∃ n : Nat, ((lv5.length : Int) - ((r : Int) + 1)).toNat = n := ⟨_, rfl⟩
                rw [hn]
                have hn' : r + 1 + n = sw.length := by omega
                refine for_it (walk_from (r := r) (n := n)) (fun i σ H6 => Same H H6 ∧ ∃ (lv : List V) (x8 x9 x10 x11 : Option V), σ = [some (.int (Fd.p α)), some (.ref rp), some (.ref LL), some (.int (r : Nat)), some (.int (wd : Nat)), some (.int (c : Nat)), some (.int (at_ : Nat)), some (.ref au), x8, x9, x10, x11] ∧
                    H6 LL = some (.lst lv) ∧ Al (RowL LL H6) lv (part wd c r lead sw (r + 1 + i)) ∧ H6 au = some (.lst aus) ∧ Al (rep H6) aus lead)
                  ⟨s5, lv5, _, _, _, _, rfl, upd_same, by rw [Nat.add_zero, part_first]; exact al5.mono fun _ _ q => q.mut hl4, by rw [upd_ne nu]; exact s4 _ _ hau, al_ts ((Tk.of s4).trans (Tk.lst hl4)) aau⟩ (fun i σ H1 _ q => trivial) (fun i x σ H6 H6' hi q y => ?_) (fun σ H6 q => ?_)
                · obtain ⟨s6, lv, x8, x9, x10, x11, rfl, hlv, alv, hau6, aau6⟩ := q
                  obtain ⟨rfl, rfl⟩ := y
                  have hk : r + 1 + i < sw.length := by omega
                  have lvl : lv.length = sw.length := by rw [alv.len, part_len]
                  have rm := getD_mem (d := []) hk
                  have rw_ : (sw.getD (r + 1 + i) []).length = wd := tw _ (swm _ rm)
                  obtain ⟨uk, huk, ⟨ak, aks, rfl, nk, hak, aak⟩⟩ := alv.at (i := r + 1 + i) (x := sw.getD (r + 1 + i) []) (by rw [← part_at (w := wd) (c := c) (r := r) (lead := lead) hk, getD_lt (by rw [part_len]; exact hk)]; exact List.getElem?_eq_getElem (by rw [part_len]; exact hk))
                  obtain ⟨Dk, cfk⟩ := tcf _ (swm _ rm)
                  obtain ⟨Dl, cfl⟩ := tcf _ hmem
                  have lo := less_ok (c := c) cfk cfl cz (it5 (by omega) hB)
                  generalize hrow : sw.getD (r + 1 + i) [] = row at *
                  have rowAt : ∀ {j : Nat}, j < wd → ∃ z, aks[j]? = some z ∧ rep H6' z (fn row j) := fun {j} hj => aak.at (x := fn row j) (by rw [fn_lt (by rw [rw_]; exact hj)]; exact List.getElem?_eq_getElem (by rw [rw_]; exact hj))
                  have leadAt : ∀ {j : Nat}, j < wd → ∃ z, aus[j]? = some z ∧ rep H6' z (fn lead j) := fun {j} hj => aau6.at (x := fn lead j) (by rw [fn_lt (by rw [leadw]; exact hj)]; exact List.getElem?_eq_getElem (by rw [leadw]; exact hj))
                  obtain ⟨zk, hzk, rzk⟩ := rowAt hc'
                  obtain ⟨zl, hzl, rzl⟩ := leadAt hc'
                  refine ⟨_, rfl, _, rfl, _, rfl, _, rfl, LL, lv, ((r + 1 + i : Nat) : Int), _, rfl, rfl, SqL.of hlv, atI_nat huk, _, rfl, ak, aks, (c : Int), zk, rfl, rfl, SqL.of hak, atI_nat hzk, _, rfl, _, rfl, au, aus, (c : Int), zl, rfl, rfl, SqL.of hau6, atI_nat hzl, ?_⟩
                  refine ⟨zk, zl, fn row c, fn lead c, rfl, rzk, rzl, lo.a, lo.b, cz, fun v7 H7 s7 r7 => ?_⟩
                  refine ⟨v7, fn row c * Fl.inv (fn lead c), rfl, r7, lo.q, fun v8 H8 s8 r8 => ?_⟩
                  have s78 := s7.trans s8
                  refine ⟨_, rfl, _, rfl, LL, lv, ((r + 1 + i : Nat) : Int), _, rfl, rfl, SqL.of (s78 _ _ hlv), atI_nat huk, ?_⟩
                  refine ⟨_, rfl, (wd : Int), rfl, by omega, by omega, fun D hD => ?_⟩
                  refine lc_dat (walk_r0 (n := ((wd : Nat) : Int).toNat)) (lessLead wd c lead row) rep (by rw [lessLead_len]; omega) (by omega) hD rep_m1 rep_m2 (fun H1 s => trivial) (fun j x H9 H9' e hj he s9 _ y Nx kk => ?_) (fun H9 acc s9 hacc al9 => ?_)
                  · obtain ⟨rfl, rfl⟩ := y
                    have hj' : j < wd := by omega
                    have eq : e = fn row j + (-1 * (fn row c * Fl.inv (fn lead c))) * fn lead j := by
                      unfold lessLead at he
                      rw [List.getElem?_map, List.getElem?_range hj'] at he
                      exact (Option.some.inj he).symm
                    obtain ⟨zj, hzj, rzj⟩ := rowAt hj'
                    obtain ⟨lj, hlj, rlj⟩ := leadAt hj'
                    have s79 := s78.trans s9
                    refine ⟨rfl, ?_⟩
                    refine ⟨_, rfl, _, rfl, _, rfl, ak, aks, (j : Int), zj, rfl, rfl, SqL.of (s79 _ _ hak), atI_nat hzj, ?_⟩
                    refine ⟨_, rfl, _, rfl, _, rfl, _, rfl, au, aus, (j : Int), lj, rfl, rfl, SqL.of (s79 _ _ hau6), atI_nat hlj, ?_⟩
                    refine ⟨v8, lj, -1 * (fn row c * Fl.inv (fn lead c)), fn lead j, rfl, rep_m1 s9 r8, rep_m1 s79 rlj, lo.f, lo.hl j, trivial, fun v10 H10 s10 r10 => ?_⟩
                    refine ⟨zj, v10, fn row j, -1 * (fn row c * Fl.inv (fn lead c)) * fn lead j, rfl, rep_m1 (s79.trans s10) rzj, r10, lo.hr j, lo.hp j, trivial, fun v11 H11 s11 r11 => kk v11 H11 ?_ (s10.trans s11)⟩
                    rw [eq]; exact r11
                  · have s79 := s78.trans s9
                    have hl9 := s79 _ _ hlv
                    refine ⟨_, rfl, _, rfl, LL, lv, ((r + 1 + i : Nat) : Int), r + 1 + i, rfl, rfl, hl9, ixN_at (by omega), ?_⟩
                    have nD : D ≠ LL := Ne.symm (ne_of_none (s78 _ _ hlv) hD)
                    refine ⟨Same.mut (s6.trans s79) nL, lv.set (r + 1 + i) (.ref D), _, _, _, _, rfl, upd_same, ?_, by rw [upd_ne nu]; exact s79 _ _ hau6, al_ts ((Tk.of s79).trans (Tk.lst hl9)) aau6⟩
                    rw [← Nat.add_assoc, part_next (by omega) hk, hrow]
                    refine Al.set (alv.mono fun _ _ q => (q.same s79).mut hl9) _ ⟨D, acc, rfl, nD, by rw [upd_ne nD]; exact hacc, al_ts (Tk.lst hl9) al9⟩
                · obtain ⟨s6, lv, x8, x9, x10, x11, rfl, hlv, alv, hau6, aau6⟩ := q
                  refine ⟨_, rfl, _, _, rfl, rfl, ?_⟩
                  have nx : turns wd rows (c + 1) = (swept wd c r lead sw, r + 1) := by
                    rw [nxt]
                    unfold lawTurn
                    dsimp only
                    rw [pv]
                    dsimp only
                    rw [hlead, hsw]
                  rw [hn', part_all] at alv
                  exact ⟨s6, lv, some (.int (c : Nat)), some (.int (at_ : Nat)), some (.ref au), x8, x9, x10, x11, by rw [nx]; rfl, hlv, by rw [nx]; exact alv⟩
            · have hlt' : ¬ (at_ : Int) < (lvs.length : Int) := by omega
              rw [decide_eq_false hlt']
              refine iteF ?_
              have e : at_ = st.length := by omega
              subst e
              have pv : pivot st r c = none := pivot_no hz
              refine ⟨_, rfl, _, rfl, LL, lvs, rfl, .inl (SqL.of hl3), _, _, rfl, rfl, _, rfl, ?_⟩
              rw [decide_eq_false hlt']
              refine iteF ?_
              have nx : turns wd rows (c + 1) = (st, r) := by
                rw [nxt]
                unfold lawTurn
                dsimp only
                rw [pv]
              exact ⟨s2.trans s3, lvs, some (.int (c : Nat)), some (.int (st.length : Nat)), x7, x8, x9, x10, x11, by rw [nx], hl3, by rw [nx]; exact al3⟩
          · rintro σ H5 Q5 Q6 f5 ⟨v, e, v2, e2, p, xs, e3, hs, i, j, e4, e5, b, e6, q⟩
            refine ⟨v, e, v2, e2, p, xs, e3, hs, i, j, e4, e5, b, e6, ?_⟩
            cases b with
            | false => exact f5 _ _ q
            | true =>
              obtain ⟨w1, g1, w2, g2, w3, g3, p1, xs1, i1, u1, g4, g5, g6, g7, w4, g8, p2, xs2, i2, u2, g9, g10, g11, g12, v1, x, g13, g14, q⟩ := q
              refine ⟨w1, g1, w2, g2, w3, g3, p1, xs1, i1, u1, g4, g5, g6, g7, w4, g8, p2, xs2, i2, u2, g9, g10, g11, g12, v1, x, g13, g14, fun H7 s7 => ?_⟩
              obtain ⟨c, ec, q⟩ := q H7 s7
              exact ⟨c, ec, f5 _ _ q⟩
        · obtain ⟨s2, lvs, x5, x6, x7, x8, x9, x10, x11, rfl, hl2, al2⟩ := q
          have e : ((wd : Nat) : Int).toNat = wd := by omega
          rw [e, ← turns_rank hw hne]
          exact ⟨_, rfl, k _ s2⟩
end
end W26

end

/-! ## WDraw -/
section
set_option Elab.async false
set_option linter.all false
set_option maxRecDepth 100000
set_option maxHeartbeats 8000000
/-! The state of the draws. -/
namespace W26
open PySem L2 M26
open Rp
/-- the drawing state at st, its great numbers at gr; at most n draws so far -/
def StOk (st gr : Addr) (n : Nat) (H : Hp) : Prop := st ≠ gr ∧ ∃ (gs : List Int) (t : Int) (c : Nat), H st = some (.lst [.ref gr, .int t, .int (c : Nat)]) ∧ H gr = some (.lst (gs.map V.int)) ∧ t.natAbs < 2 ^ 40 ∧ c ≤ n
/-- the heap without the state -/
def off (st gr : Addr) (H : Hp) : Hp := fun b => if b = st ∨ b = gr then none else H b
/-- all but the state stays -/
def SX (st gr : Addr) (H H' : Hp) : Prop := ∀ b u, b ≠ st → b ≠ gr → H b = some u → H' b = some u
theorem SX.refl {st gr : Addr} (H : Hp) : SX st gr H H := fun _ _ _ _ h => h
theorem SX.trans {st gr : Addr} {H H1 H2 : Hp} (a : SX st gr H H1) (b : SX st gr H1 H2) : SX st gr H H2 := fun c u h1 h2 e => b c u h1 h2 (a c u h1 h2 e)
theorem SX.of {st gr : Addr} {H H' : Hp} (s : Same H H') : SX st gr H H' := fun b u _ _ e => s b u e
theorem SX.off {st gr : Addr} {H H' : Hp} (s : SX st gr H H') : Same (off st gr H) (off st gr H') := fun b u e => by
  unfold W26.off at e ⊢
  by_cases h : b = st ∨ b = gr
  · rw [if_pos h] at e; cases e
  · rw [if_neg h] at e ⊢
    exact s b u (fun z => h (.inl z)) (fun z => h (.inr z)) e
theorem off_same {st gr : Addr} {H : Hp} : Same (off st gr H) H := fun b u e => by
  unfold W26.off at e
  by_cases h : b = st ∨ b = gr
  · rw [if_pos h] at e; cases e
  · rw [if_neg h] at e; exact e
theorem off_at {st gr b : Addr} {H : Hp} {u : HO} (h1 : b ≠ st) (h2 : b ≠ gr) (e : H b = some u) : off st gr H b = some u := by
  unfold W26.off
  rw [if_neg (fun z => z.elim h1 h2)]; exact e
theorem StOk.same {st gr : Addr} {n : Nat} {H H' : Hp} (h : StOk st gr n H) (s : Same H H') : StOk st gr n H' := by
  obtain ⟨a, gs, t, c, h1, h2, h3, h4⟩ := h
  exact ⟨a, gs, t, c, s _ _ h1, s _ _ h2, h3, h4⟩
theorem StOk.mono {st gr : Addr} {n m : Nat} {H : Hp} (h : StOk st gr n H) (hn : n ≤ m) : StOk st gr m H := by
  obtain ⟨a, gs, t, c, h1, h2, h3, h4⟩ := h
  exact ⟨a, gs, t, c, h1, h2, h3, by omega⟩
/-- tuples stay -/
theorem SX.tk {st gr : Addr} {n : Nat} {H H' : Hp} (s : SX st gr H H') (h : StOk st gr n H) : Tk H H' := fun b xs e => by
  obtain ⟨a, gs, t, c, h1, h2, h3, h4⟩ := h
  exact s b _ (Ne.symm (ne_of h1 e (by intro z; cases z))) (Ne.symm (ne_of h2 e (by intro z; cases z))) e
/-- tuples of the whole heap stand off the state -/
theorem StOk.offTk {st gr : Addr} {n : Nat} {H : Hp} (h : StOk st gr n H) : Tk H (off st gr H) := fun b xs e => by
  obtain ⟨a, gs, t, c, h1, h2, h3, h4⟩ := h
  exact off_at (Ne.symm (ne_of h1 e (by intro z; cases z))) (Ne.symm (ne_of h2 e (by intro z; cases z))) e
section
variable {P : Program} {w : World} {K : PySem.W.Frag} {mg : Str → Option Value} {base : Heap}
theorem ixN_first {n : Nat} : ixN (n + 1) 0 = some 0 := by
  unfold ixN
  rw [if_pos (by decide), if_pos (by omega)]
  rfl
theorem seq_first {n : Nat} : seqIndex? 0 (n + 1) = some 0 := by
  unfold seqIndex?
  simp
theorem upd_upd' {H : Hp} {a : Addr} {o u : HO} : upd (upd H a o) a u = upd H a u := by
  funext b
  by_cases h : b = a
  · rw [h, upd_same, upd_same]
  · rw [upd_ne h, upd_ne h, upd_ne h]
abbrev s_l_start : Stmt := topS 31
theorem sc_l_start : FnScope ["_law_script", "_law_total", "_law_great", "_law_cell"] ["_law_script"] (defScope s_l_start) :=
  ⟨rfl, rfl, rfl, by decide +kernel, rfl, by decide +kernel, by decide +kernel⟩
abbrev s_l_draw : Stmt := topS 32
theorem sc_l_draw : FnScope ["_law_state", "_law_many", "_law_great", "_law_cell", "_law_mixed"] ["_law_state", "_law_many"] (defScope s_l_draw) :=
  ⟨rfl, rfl, rfl, by decide +kernel, rfl, by decide +kernel, by decide +kernel⟩
abbrev s_l_prime : Stmt := topS 47
theorem sc_l_prime : FnScope ["_law_state"] ["_law_state"] (defScope s_l_prime) :=
  ⟨rfl, rfl, rfl, by decide +kernel, rfl, by decide +kernel, by decide +kernel⟩
theorem sql_same {H H' : Hp} {a : Addr} {xs : List V} (s : Same H H') (h : SqL K H a xs) : SqL K H' a xs :=
  h.elim (fun r => .inl (r.elim (fun q => .inl (s _ _ q)) fun ⟨o, q⟩ => .inr ⟨o, s _ _ q⟩)) .inr
def spStart (K : PySem.W.Frag) : Sp := fun vs H Q _ => ∃ (a : Addr) (ns : List Int), vs = [.ref a] ∧ SqL K H a (ns.map V.int) ∧ ns.length ≤ 1000 ∧ ∀ st gr H', Same H H' → StOk st gr 0 H' → Q (.ref st) H'
def spDraw : Sp := fun vs H Q _ => ∃ (st gr : Addr) (n m : Nat), vs = [.ref st, .int (m : Nat)] ∧ StOk st gr n H ∧ 0 < m ∧ m ≤ 1000000 ∧ n ≤ 1000000 ∧ ∀ (r : Nat) H', r < m → SX st gr H H' → StOk st gr (n + 1) H' → Q (.int (r : Nat)) H'
theorem fmod_lt {a : Int} {m : Nat} (hm : 0 < m) : ∃ r : Nat, a.fmod (m : Int) = (r : Int) ∧ r < m := by
  have h1 := Int.fmod_nonneg_of_pos a (show (0 : Int) < m by omega)
  have h2 := Int.fmod_lt_of_pos a (show (0 : Int) < m by omega)
  exact ⟨(a.fmod m).toNat, by omega, by omega⟩
theorem ok_l_draw {f : Addr} {fd : FuncData} (F : Fun K "_law_draw" "_law_draw" s_l_draw f fd) (T : Blt mg) : FnOk P w K mg base CX0 1 f fd ["_law_state", "_law_many"] spDraw := by
  refine F.ok sc_l_draw (fun vs H Q E h => ?_) (fun cdv A outer s H vs Q E hr h => ?_)
  · obtain ⟨st, gr, n, m, rfl, _⟩ := h
    rfl
  · obtain ⟨st, gr, n, m, rfl, ⟨hne, gs, t, c, h1, h2, ht, hc⟩, hm, hm2, hn, k⟩ := h
    refine ⟨_, (pss_cons (ps_set (i := 2) sc_l_draw.nd rfl (by first | exact Or.inl rfl | exact Or.inr rfl) (pe_ix (ix_lstK (K := K) rfl) (pv 0) pe_int (fun _ _ => rfl)))
      (pss_cons (ps_if (pt_truth (pv 2) (by intro _; rfl))
      (pss_cons (ps_set (i := 3) sc_l_draw.nd rfl (by first | exact Or.inl rfl | exact Or.inr rfl) (pe_callTy call_int1 (by rfl) T.int (by decide +kernel) (pa_cons (pe_ix (ix_lstK (K := K) rfl) (pv 2) pe_int (fun _ _ => rfl)) pa_nil)))
      (pss_cons (ps_asg (pe_op op_fdivN (pv 3) (pv 1)) (pg_sub (pv 2) pe_int set_list))
      (pss_cons (ps_if (pt_cmpR op_eq (pe_ix (ix_lstK (K := K) rfl) (pv 2) pe_int (fun _ _ => rfl)) pe_int (nomark _))
      (pss_one (ps_expr (pe_bm PySem.F.plainAttrs_list PySem.F.slot_list_pop PySem.F.type_list_pop mt_popAt (pv 2) (pa_cons pe_int pa_nil))))
      pss_nil)
      (pss_one (ps_ret (pe_op op_modN (pe_callTy call_int1 (by rfl) T.int (by decide +kernel) (pa_cons (pv 3) pa_nil)) (pv 1)))))))
      pss_nil)
      (pss_cons (ps_asg (pe_op op_add (pe_ix (ix_lstK (K := K) rfl) (pv 0) pe_int (fun _ _ => rfl)) pe_int) (pg_sub (pv 0) pe_int set_list))
      (pss_cons (ps_asg (pe_op op_modN (pe_callTy call_int1 (by rfl) T.int (by decide +kernel) (pa_cons (pe_op op_add (pe_op op_add (pe_op op_mulW (pe_ix (ix_lstK (K := K) rfl) (pv 0) pe_int (fun _ _ => rfl)) pe_int) (pe_op op_mulW (pe_ix (ix_lstK (K := K) rfl) (pv 0) pe_int (fun _ _ => rfl)) pe_int)) pe_int) pa_nil)) pe_int) (pg_sub (pv 0) pe_int set_list))
      (pss_cons (ps_set (i := 4) sc_l_draw.nd rfl (by first | exact Or.inl rfl | exact Or.inr rfl) (pe_op op_modN (pe_callTy call_int1 (by rfl) T.int (by decide +kernel) (pa_cons (pe_op op_add (pe_op op_add (pe_op op_mulW (pe_ix (ix_lstK (K := K) rfl) (pv 0) pe_int (fun _ _ => rfl)) (pe_ix (ix_lstK (K := K) rfl) (pv 0) pe_int (fun _ _ => rfl))) (pe_op op_mulW (pe_ix (ix_lstK (K := K) rfl) (pv 0) pe_int (fun _ _ => rfl)) pe_int)) (pe_op op_fdivN (pe_ix (ix_lstK (K := K) rfl) (pv 0) pe_int (fun _ _ => rfl)) pe_int)) pa_nil)) pe_int))
      (pss_one (ps_ret (pe_op op_modN (pe_callTy call_int1 (by rfl) T.int (by decide +kernel) (pa_cons (pe_op op_fdivN (pv 4) pe_int) pa_nil)) (pv 1))))))))), ?_⟩
    have nm : (m : Int) ≠ 0 := by omega
    refine ⟨_, rfl, st, _, 0, _, rfl, rfl, SqL.of h1, rfl, ?_⟩
    refine ⟨_, rfl, _, .inl ⟨_, SqL.of h2, rfl⟩, ?_⟩
    have k2 : ∀ (a : Int) H', SX st gr H H' → StOk st gr (n + 1) H' → Q (.int (a.fmod (m : Int))) H' := fun a H' s q => by
      obtain ⟨r, er, hr2⟩ := fmod_lt (a := a) hm
      rw [er]; exact k r H' hr2 s q
    have ng : gr ≠ st := Ne.symm hne
    have big : ∀ a : Int, (a.fmod 2147483647).natAbs < 2 ^ 40 := fun a => by
      have h1 := Int.fmod_nonneg_of_pos a (show (0 : Int) < 2147483647 by decide)
      have h2 := Int.fmod_lt_of_pos a (show (0 : Int) < 2147483647 by decide)
      omega
    cases gs with
    | nil =>
      refine iteF ?_
      -- state[2] = state[2] + 1
      refine ⟨_, rfl, st, _, 2, _, rfl, rfl, SqL.of h1, rfl, _, _, rfl, rfl, ?_⟩
      refine ⟨_, rfl, st, _, 2, 2, rfl, rfl, h1, rfl, ?_⟩
      -- state[1] = ..
      refine ⟨_, rfl, st, _, 1, _, rfl, rfl, SqL.of upd_same, rfl, _, _, rfl, rfl, cm_small (by omega) (by decide), ?_⟩
      refine ⟨_, rfl, st, _, 2, _, rfl, rfl, SqL.of upd_same, rfl, _, _, rfl, rfl, cm_small (by show ((c : Int) + 1).natAbs < _; omega) (by decide), ?_⟩
      refine ⟨_, _, rfl, rfl, _, _, rfl, rfl, .inl ⟨_, rfl, _, _, rfl, rfl, (by show (2147483647 : Int) ≠ 0; decide), ?_⟩⟩
      refine ⟨_, rfl, st, _, 1, 1, rfl, rfl, upd_same, rfl, ?_⟩
      -- mixed
      refine ⟨_, rfl, st, _, 1, _, rfl, rfl, SqL.of upd_same, rfl, _, rfl, st, _, 1, _, rfl, rfl, SqL.of upd_same, rfl, _, _, rfl, rfl, cm_small (Nat.lt_trans (big _) (by decide)) (Nat.lt_trans (big _) (by decide)), ?_⟩
      refine ⟨_, rfl, st, _, 2, _, rfl, rfl, SqL.of upd_same, rfl, _, _, rfl, rfl, cm_small (by show ((c : Int) + 1).natAbs < _; omega) (by decide), ?_⟩
      refine ⟨_, _, rfl, rfl, _, rfl, st, _, 1, _, rfl, rfl, SqL.of upd_same, rfl, _, _, rfl, rfl, ⟨by decide, by decide⟩, _, _, rfl, rfl, .inl ⟨_, rfl, _, _, rfl, rfl, (by show (2147483629 : Int) ≠ 0; decide), ?_⟩⟩
      refine ⟨_, rfl, _, _, rfl, rfl, ⟨by decide, by decide⟩, .inl ⟨_, rfl, _, rfl, _, _, rfl, rfl, nm, ?_⟩⟩
      refine k2 _ _ (fun b u b1 b2 e => by rw [upd_ne b1, upd_ne b1]; exact e) ⟨hne, [], _, c + 1, upd_same, by rw [upd_ne ng, upd_ne ng]; exact h2, big _, by omega⟩
    | cons g gs =>
      replace h2 : H gr = some (.lst (V.int g :: gs.map V.int)) := h2
      refine iteT ?_
      refine ⟨_, rfl, gr, _, 0, _, rfl, rfl, SqL.of h2, atI_nat (j := 0) rfl, .inl ⟨_, rfl, ?_⟩⟩
      refine ⟨_, rfl, _, rfl, _, _, rfl, rfl, ⟨nm, by omega⟩, ?_⟩
      refine ⟨_, rfl, gr, _, 0, 0, rfl, rfl, h2, ixN_first, ?_⟩
      have fr : ∀ l : List V, SX st gr H (upd H gr (.lst l)) := fun l b u b1 b2 e => by rw [upd_ne b2]; exact e
      refine ⟨_, rfl, gr, _, 0, _, rfl, rfl, SqL.of upd_same, atI_nat (j := 0) rfl, rfl, _, rfl, ?_⟩
      refine ite2 (fun z => ?_) (fun z => ?_)
      · refine ⟨_, rfl, .inl ⟨rfl, _, SqL.of upd_same⟩, gr, _, 0, 0, _, rfl, rfl, upd_same, by decide, by decide, seq_first, rfl, ?_⟩
        refine ⟨_, rfl, .inl ⟨_, rfl, _, rfl, _, _, rfl, rfl, nm, ?_⟩⟩
        rw [upd_upd']
        refine k2 _ _ (fr _) ⟨hne, gs, t, c, by rw [upd_ne hne]; exact h1, upd_same, ht, by omega⟩
      · refine ⟨_, rfl, .inl ⟨_, rfl, _, rfl, _, _, rfl, rfl, nm, ?_⟩⟩
        refine k2 _ _ (fr _) ⟨hne, g.fdiv m :: gs, t, c, by rw [upd_ne hne]; exact h1, upd_same, ht, by omega⟩
theorem ok_l_start {f : Addr} {fd : FuncData} (F : Fun K "_law_start" "_law_start" s_l_start f fd) (T : Blt mg) : FnOk P w K mg base CX0 1 f fd ["_law_script"] (spStart K) := by
  refine F.ok sc_l_start (fun vs H Q E h => ?_) (fun cdv A outer s H vs Q E hr h => ?_)
  · obtain ⟨a, ns, rfl, _⟩ := h
    rfl
  · obtain ⟨a, ns, rfl, ha, hn, k⟩ := h
    refine ⟨_, (pss_cons (ps_set (i := 1) sc_l_start.nd rfl (by first | exact Or.inl rfl | exact Or.inr rfl) (pe_op op_add (pe_callB (call_lenK (K := K) rfl) (by rfl) T.len PySem.boot_len (pa_cons (pv 0) pa_nil)) pe_int))
      (pss_cons (ps_set (i := 2) sc_l_start.nd rfl (by first | exact Or.inl rfl | exact Or.inr rfl) (pe_lst pa_nil))
      (pss_cons (ps_for PassesOwn.never rfl (pi_lstK (K := K) rfl (pv 0)) (pg_name (i := 3) sc_l_start.nd rfl (by first | exact Or.inl rfl | exact Or.inr rfl))
      (pss_cons (ps_set (i := 1) sc_l_start.nd rfl (by first | exact Or.inl rfl | exact Or.inr rfl) (pe_op op_modN (pe_callTy call_int1 (by rfl) T.int (by decide +kernel) (pa_cons (pe_op op_add (pe_op op_mulW (pv 1) pe_int) (pe_callTy call_int1 (by rfl) T.int (by decide +kernel) (pa_cons (pv 3) pa_nil))) pa_nil)) pe_int))
      (pss_one (ps_if (pt_cmpR op_ge (pe_callB call_abs (by rfl) T.abs (by decide +kernel) (pa_cons (pe_callTy call_int1 (by rfl) T.int (by decide +kernel) (pa_cons (pv 3) pa_nil)) pa_nil)) (pe_op op_pow pe_int pe_int) (nomark _))
      (pss_one (ps_expr (pe_bm PySem.F.plainAttrs_list PySem.F.slot_list_append PySem.F.type_list_append mt_append (pv 2) (pa_cons (pe_callB call_abs (by rfl) T.abs (by decide +kernel) (pa_cons (pe_callTy call_int1 (by rfl) T.int (by decide +kernel) (pa_cons (pv 3) pa_nil)) pa_nil)) pa_nil))))
      pss_nil))))
      (pss_one (ps_ret (pe_lst (pa_cons (pv 2) (pa_cons (pv 1) (pa_cons pe_int pa_nil))))))))), ?_⟩
    refine ⟨_, rfl, a, _, rfl, .inl ha, _, _, rfl, rfl, ?_⟩
    refine ⟨Nat.zero_le _, fun gr ngr => ?_⟩
    refine ⟨_, rfl, a, rfl, ⟨_, sql_same (Same.new ngr) ha⟩, ?_⟩
    refine for_list (K := K) (a := a) (xs := ns.map V.int) (fun i σ H1 => Same H H1 ∧ ∃ (t : Int) (gs : List Int) (c : Option V), σ = [some (.ref a), some (.int t), some (.ref gr), c] ∧ t.natAbs < 2 ^ 40 ∧ H1 gr = some (.lst (gs.map V.int)) ∧ gs.length ≤ i)
      ⟨Same.new ngr, _, [], none, rfl, by rw [List.length_map]; omega, upd_same, Nat.le_refl _⟩ (fun i σ H1 _ q => sql_same q.1 ha) (fun i x σ H1 hx q => ?_) (fun σ H1 q => ?_)
    · obtain ⟨s1, t, gs, c, rfl, ht, hg, hgl⟩ := q
      have hi : i < ns.length := by have := (List.getElem?_eq_some_iff.mp hx).1; rw [List.length_map] at this; exact this
      rw [List.getElem?_map, List.getElem?_eq_getElem hi] at hx
      cases hx
      generalize ns[i] = cell
      have big : ∀ a : Int, (a.fmod 2147483587).natAbs < 2 ^ 40 := fun a => by
        have h1 := Int.fmod_nonneg_of_pos a (show (0 : Int) < 2147483587 by decide)
        have h2 := Int.fmod_lt_of_pos a (show (0 : Int) < 2147483587 by decide)
        omega
      refine ⟨_, rfl, _, _, rfl, rfl, cm_small (by omega) (by decide), _, rfl, .inl ⟨_, rfl, _, _, rfl, rfl, .inl ⟨_, rfl, _, _, rfl, rfl, (by show (2147483587 : Int) ≠ 0; decide), ?_⟩⟩⟩
      refine ⟨_, rfl, .inl ⟨_, rfl, _, rfl, _, _, rfl, rfl, ⟨by decide, by decide, by decide⟩, _, _, rfl, rfl, _, rfl, ?_⟩⟩
      refine ite2 (fun z => ?_) (fun z => ?_)
      · refine ⟨_, rfl, .inl ⟨rfl, _, SqL.of hg⟩, _, rfl, .inl ⟨_, rfl, _, rfl, gr, gs.map V.int, _, rfl, rfl, hg, Nat.lt_of_lt_of_le (show (gs.map V.int).length < 1000 by rw [List.length_map]; omega) (by decide), ?_⟩⟩
        refine ⟨Same.mut s1 ngr, _, gs ++ [if cell < 0 then -cell else cell], _, rfl, big _, ?_, by rw [List.length_append]; show gs.length + 1 ≤ i + 1; omega⟩
        rw [upd_same, List.map_append]
        rfl
      · exact ⟨s1, _, gs, _, rfl, big _, hg, by omega⟩
    · obtain ⟨s1, t, gs, c, rfl, ht, hg, hgl⟩ := q
      refine ⟨_, rfl, _, rfl, (by show 3 ≤ sizeLine; decide), fun st nst => ?_⟩
      have ne : gr ≠ st := ne_of_none hg nst
      exact k st gr _ (s1.trans (Same.new nst)) ⟨Ne.symm ne, gs, t, 0, upd_same, by rw [upd_ne ne]; exact hg, ht, Nat.le_refl _⟩
def primes : List Int := [3, 5, 7, 0, 2, 11, 101, 9973]
def spLPrime : Sp := fun vs H Q _ => ∃ (st gr : Addr) (n : Nat), vs = [.ref st] ∧ StOk st gr n H ∧ n ≤ 1000000 ∧ ∀ p ∈ primes, ∀ H', SX st gr H H' → StOk st gr (n + 1) H' → Q (.int p) H'
theorem ok_l_prime {f : Addr} {fd : FuncData} (F : Fun K "_law_prime" "_law_prime" s_l_prime f fd) (D_l_draw : Dfn P w K mg base CX0 1 "_law_draw" ["_law_state", "_law_many"] spDraw) :
    FnOk P w K mg base CX0 2 f fd ["_law_state"] spLPrime := by
  refine F.ok sc_l_prime (fun vs H Q E h => ?_) (fun cdv A outer s H vs Q E hr h => ?_)
  · obtain ⟨st, gr, n, rfl, _⟩ := h
    rfl
  · obtain ⟨st, gr, n, rfl, hst, hn, k⟩ := h
    refine ⟨_, (pss_one (ps_ret (pe_ix (ix_tupK (K := K) rfl) (pe_tup (pa_cons pe_int (pa_cons pe_int (pa_cons pe_int (pa_cons pe_int (pa_cons pe_int (pa_cons pe_int (pa_cons pe_int (pa_cons pe_int pa_nil))))))))) (pe_cd D_l_draw (hr.mono (by decide)) pass0 (pa_cons (pv 0) (pa_cons pe_int pa_nil))) (fun _ _ => rfl)))), ?_⟩
    refine ⟨(by show 8 ≤ sizeLine; decide), fun t ht => ?_⟩
    refine ⟨_, rfl, st, gr, n, 8, rfl, hst.same (Same.new ht), by decide, by decide, hn, fun r H' hr2 s hst' => ?_⟩
    have htt : H' t = some (.tup (primes.map V.int)) := s.tk (hst.same (Same.new ht)) _ _ upd_same
    have hp : ∃ p, primes[r]? = some p := ⟨primes[r]'hr2, List.getElem?_eq_getElem hr2⟩
    obtain ⟨p, hp⟩ := hp
    exact ⟨t, primes.map V.int, (r : Nat), .int p, rfl, rfl, SqT.of htt, atI_nat (by rw [List.getElem?_map, hp]; rfl), k p (List.mem_of_getElem? hp) H' ((SX.of (Same.new ht)).trans s) hst'⟩
end
end W26

end

/-! ## WNums -/
section
set_option Elab.async false
set_option linter.all false
set_option maxRecDepth 100000
set_option maxHeartbeats 8000000
/-! Numbers and rows that are drawn. -/
namespace M26
section
variable {α : Type} [Fd α]
open Fd
def pw (α : Type) [Fd α] : Nat → α
  | 0 => 1
  | k + 1 => six * pw α k
theorem pw_ne : ∀ k, pw α k ≠ 0
  | 0 => Fl.one_ne
  | k + 1 => ne_mul six_ne (pw_ne k)
theorem z_pw : ∀ k, Z (3 * k + 1) (pw α k)
  | 0 => z_one
  | k + 1 => z_mono (show 3 + (3 * k + 1) ≤ 3 * (k + 1) + 1 by omega) (z_mul z_six (z_pw k))
/-- the bound of the rows that are drawn -/
def RowB (k : Nat) (r : List α) : Prop := Cf (pw α k) (17 + 6 * k) r
theorem RowB.up {k : Nat} {r : List α} (h : RowB k r) : RowB (k + 1) r := by
  refine ⟨pw_ne _, z_mono (show 3 * (k + 1) + 1 ≤ 17 + 6 * (k + 1) by omega) (z_pw (k + 1)), fun x hx => ?_⟩
  have e : pw α (k + 1) * x = six * (pw α k * x) := by show six * pw α k * x = _; grind
  rw [e]
  exact z_mono (by omega) (z_mul z_six (h.z x hx))
theorem num_rowB {k : Nat} {r : List α} (h : ∀ x ∈ r, Z 23 (six * x)) : RowB (k + 1) r := by
  refine ⟨pw_ne _, z_mono (show 3 * (k + 1) + 1 ≤ 17 + 6 * (k + 1) by omega) (z_pw (k + 1)), fun x hx => ?_⟩
  cases k with
  | zero =>
    have e : pw α (0 + 1) * x = six * x := by show six * 1 * x = _; grind
    rw [e]
    exact z_mono (by omega) (h x hx)
  | succ k =>
    have e : pw α (k + 1 + 1) * x = pw α (k + 1) * (six * x) := by show six * pw α (k + 1) * x = _; grind
    rw [e]
    exact z_mono (show 3 * (k + 1) + 1 + 23 ≤ 17 + 6 * (k + 1 + 1) by omega) (z_mul (z_pw (k + 1)) (h x hx))
theorem zero_rowB {k n : Nat} : RowB k (zeroRow n : List α) := by
  refine ⟨pw_ne _, z_mono (by omega) (z_pw k), fun x hx => ?_⟩
  have e : x = 0 := (List.mem_replicate.mp hx).2
  have e2 : pw α k * x = 0 := by rw [e]; grind
  rw [e2]; exact z_zero _
theorem pick_rowB {k wd : Nat} {w1 w2 : α} {r1 r2 : List α} (h1 : Z 5 (six * w1)) (h2 : Z 5 (six * w2)) (b1 : RowB k r1) (b2 : RowB k r2) : RowB (k + 1) (lawSum [w1, w2] [r1, r2] wd) := by
  refine ⟨pw_ne _, z_mono (show 3 * (k + 1) + 1 ≤ 17 + 6 * (k + 1) by omega) (z_pw (k + 1)), fun x hx => ?_⟩
  have hl : (lawSum [w1, w2] [r1, r2] wd) = sumTo [w1, w2] [r1, r2] wd (1 + 1) := rfl
  rw [hl, sumTo_succ] at hx
  obtain ⟨i, hi, rfl⟩ := List.mem_map.mp hx
  have hi' := List.mem_range.mp hi
  rw [show (1 : Nat) = 0 + 1 from rfl, sumTo_succ, fn_map_range, if_pos hi', sumTo_zero]
  have e0 : fn (List.replicate wd (0 : α)) i = 0 := by rw [fn_lt (by rw [List.length_replicate]; exact hi'), List.getElem_replicate]
  rw [e0]
  show Z _ (pw α (k + 1) * (0 + w1 * fn r1 i + w2 * fn r2 i))
  have e : pw α (k + 1) * (0 + w1 * fn r1 i + w2 * fn r2 i) = (six * w1) * (pw α k * fn r1 i) + (six * w2) * (pw α k * fn r2 i) := by show six * pw α k * _ = _; grind
  rw [e]
  exact z_mono (by omega) (z_add (z_mul h1 (b1.at i)) (z_mul h2 (b2.at i)))
theorem pick_ok {k wd : Nat} (hk : k ≤ 10) {w1 w2 : α} {r1 r2 : List α} (h1 : Z 5 (six * w1)) (h2 : Z 5 (six * w2)) (b1 : RowB k r1) (b2 : RowB k r2) : SumOk [w1, w2] [r1, r2] wd := by
  refine sum_ok (D := six) (E := pw α k) (n := 5) (m := 17 + 6 * k) ⟨six_ne, z_mono (by omega) z_six, fun x hx => ?_⟩ (fun r hr => ?_) (pw_ne k) (z_mono (by omega) (z_pw k)) (by show 5 + (17 + 6 * k) + 2 ≤ 4500; omega)
  · rcases List.mem_cons.mp hx with e | hx
    · rw [e]; exact h1
    · rcases List.mem_cons.mp hx with e | hx
      · rw [e]; exact h2
      · cases hx
  · rcases List.mem_cons.mp hr with e | hr
    · rw [e]; exact b1
    · rcases List.mem_cons.mp hr with e | hr
      · rw [e]; exact b2
      · cases hr
end
theorem six_div {A : Int} {d k M : Nat} (hd : d = 1 ∨ d = 2 ∨ d = 3) (hA : A.natAbs ≤ M) (hM : 6 * M < 2 ^ k) : RZ k (6 * Rat.divInt A (d : Int)) := by
  obtain ⟨q, hq, hq6⟩ : ∃ q : Nat, d * q = 6 ∧ q ≤ 6 := by
    rcases hd with rfl | rfl | rfl
    · exact ⟨6, rfl, by decide⟩
    · exact ⟨3, rfl, by decide⟩
    · exact ⟨2, rfl, by decide⟩
  have d0 : (d : Int) ≠ 0 := by rcases hd with rfl | rfl | rfl <;> decide
  refine ⟨A * q, ?_, ?_⟩
  · have e6 : (6 : Rat) = Rat.divInt 6 1 := rat_int 6
    rw [e6, Rat.divInt_mul_divInt, rat_int, Rat.divInt_eq_divInt_iff (by rw [Int.one_mul]; exact d0) (by decide)]
    have hq' : (d : Int) * q = 6 := by exact_mod_cast hq
    rw [Int.one_mul, Int.mul_one, Int.mul_assoc, Int.mul_comm (q : Int) d, hq', Int.mul_comm]
  · rw [Int.natAbs_mul, Int.natAbs_natCast]
    have := Nat.mul_le_mul hA hq6
    omega
end M26
namespace W26
open PySem L2 M26
open Rp
theorem SX.mut {st gr D : Addr} {H0 H : Hp} {o : HO} (s : SX st gr H0 H) (h : H0 D = none) : SX st gr H0 (upd H D o) := fun b u h1 h2 e => by
  rw [upd_ne (ne_of_none e h)]; exact s b u h1 h2 e
theorem StOk.mut {st gr D : Addr} {n : Nat} {H : Hp} {o : HO} (h : StOk st gr n H) (h1 : D ≠ st) (h2 : D ≠ gr) : StOk st gr n (upd H D o) := by
  obtain ⟨a, gs, t, c, g1, g2, g3, g4⟩ := h
  exact ⟨a, gs, t, c, by rw [upd_ne (Ne.symm h1)]; exact g1, by rw [upd_ne (Ne.symm h2)]; exact g2, g3, g4⟩
theorem StOk.new {st gr D : Addr} {n : Nat} {H : Hp} (h : StOk st gr n H) (hD : H D = none) : D ≠ st ∧ D ≠ gr := by
  obtain ⟨a, gs, t, c, g1, g2, g3, g4⟩ := h
  exact ⟨Ne.symm (ne_of_none g1 hD), Ne.symm (ne_of_none g2 hD)⟩
/-- a comprehension that draws -/
theorem lc_drw {β : Type} {J : It} {n : Nat} {G : Hp → Prop} {Y : Nat → Hp → V → Hp → Prop} (wk : Walk J n G Y) {g : TG} {te : TE} {vs : List Nat} {σ : St} {H1 : Hp} {D : Addr} {Qd : Hp → Prop} {st gr : Addr} {N : Nat} (c : Nat) (R : Hp → V → β → Prop) (Φ : β → Prop)
    (hz : n ≤ 1000) (hD : H1 D = none) (hst : StOk st gr N H1) (m1 : ∀ {H H' : Hp} {v : V} {x : β}, Tk H H' → R H v x → R H' v x)
    (hG : ∀ H, SX st gr H1 H → G H)
    (hs : ∀ (i : Nat) (x : V) (H H' : Hp), i < n → SX st gr H1 H → StOk st gr (N + c * i) H → Y i H x H' → ∀ Nx : VK, (∀ y e H4, Φ e → R H4 y e → SX st gr H H4 → StOk st gr (N + c * (i + 1)) H4 → Nx y H4) →
      g x (wipe σ vs) H' fun σ2 H2 => wipe σ2 vs = wipe σ vs ∧ te σ2 H2 Nx)
    (hd : ∀ H acc es, SX st gr H1 H → StOk st gr (N + c * n) H → H D = some (.lst acc) → Al (R H) acc es → es.length = n → (∀ e ∈ es, Φ e) → Qd H) :
    ∃ W : Nat → Nat → Hp → Prop, (∃ m, W 0 m (upd H1 D (.lst []))) ∧ ∀ i m H, W i m H →
      (J.stop i H ∧ Qd H) ∨ (J.go i H ∧ ∃ Nx : Hp → Prop, (∀ H', Nx H' → ∃ m', m' < m ∧ W (i + 1) m' H') ∧ ∀ x H', J.yld i H x H' → g x (wipe σ vs) H' fun σ2 H2 => wipe σ2 vs = wipe σ vs ∧ tYes σ2 H2 fun b H3 =>
        if b = true then te σ2 H3 fun y H4 => ∃ acc, H4 D = some (.lst acc) ∧ acc.length < sizeLine ∧ Nx (upd H4 D (.lst (acc ++ [y]))) else Nx H3) := by
  obtain ⟨d1, d2⟩ := hst.new hD
  refine lc_it wk (fun i H => SX st gr H1 H ∧ StOk st gr (N + c * i) H ∧ ∃ acc es, H D = some (.lst acc) ∧ Al (R H) acc es ∧ es.length = i ∧ ∀ e ∈ es, Φ e)
    ⟨(SX.refl H1).mut hD, (hst.mut d1 d2).mono (by omega), [], [], upd_same, Al.nil, rfl, fun e h => by cases h⟩ (fun i H _ q => hG H q.1) (fun i x H H' hi q y => ?_) (fun H q => ?_)
  · obtain ⟨s, sk, acc, es, ha, al, hl, hp⟩ := q
    refine hs i x H H' hi s sk y _ fun u e H4 he r s4 sk4 => ?_
    have ha4 : H4 D = some (.lst acc) := s4 _ _ d1 d2 ha
    refine ⟨acc, ha4, Nat.lt_of_lt_of_le (show acc.length < 1000 by rw [al.len]; omega) (by decide), (s.trans s4).mut hD, sk4.mut d1 d2, acc ++ [u], es ++ [e], upd_same, ?_, by rw [List.length_append, hl]; rfl, fun z hz => ?_⟩
    · exact Al.snoc (al.mono fun _ _ q => m1 (Tk.lst ha4) (m1 (s4.tk sk) q)) (m1 (Tk.lst ha4) r)
    · rcases List.mem_append.mp hz with h | h
      · exact hp z h
      · rw [List.mem_singleton.mp h]; exact he
  · obtain ⟨s, sk, acc, es, ha, al, hl, hp⟩ := q
    exact hd H acc es s sk ha al hl hp
section
variable {P : Program} {w : World} {K : PySem.W.Frag} {mg : Str → Option Value} {base : Heap}
abbrev s_l_tiny : Stmt := topS 49
theorem sc_l_tiny : FnScope ["_law_state", "_law_p"] ["_law_state", "_law_p"] (defScope s_l_tiny) :=
  ⟨rfl, rfl, rfl, by decide +kernel, rfl, by decide +kernel, by decide +kernel⟩
abbrev s_l_number : Stmt := topS 50
theorem sc_l_number : FnScope ["_law_state", "_law_p", "_law_top"] ["_law_state", "_law_p"] (defScope s_l_number) :=
  ⟨rfl, rfl, rfl, by decide +kernel, rfl, by decide +kernel, by decide +kernel⟩
abbrev s_l_rows : Stmt := topS 51
theorem sc_l_rows : FnScope ["_law_state", "_law_p", "_law_many", "_law_width", "_law_told", "_law_k", "_law_kind", "_law_weights", "_law_picked", "_law_i"] ["_law_state", "_law_p", "_law_many", "_law_width"] (defScope s_l_rows) :=
  ⟨rfl, rfl, rfl, by decide +kernel, rfl, by decide +kernel, by decide +kernel⟩
def spNum (α : Type) [Rp α] (b : Nat) : Sp := fun vs H Q _ => ∃ (st gr : Addr) (n : Nat), vs = [.ref st, .int (Fd.p α)] ∧ StOk st gr n H ∧ n ≤ 100000 ∧ ∀ v (x : α) H', Fd.Z b (Fd.six * x) → rep H' v x → SX st gr H H' → StOk st gr (n + 4) H' → Q v H'
section
variable {p : Nat} [PP : PrimeP p]
theorem ok_l_tiny_fin {f : Addr} {fd : FuncData} (F : Fun K "_law_tiny" "_law_tiny" s_l_tiny f fd) (D_l_draw : Dfn P w K mg base CX0 1 "_law_draw" ["_law_state", "_law_many"] spDraw)
    (D_l_low : Dfn P w K mg base CX0 2 "_law_low" ["_law_top", "_law_bottom"] spLow) : FnOk P w K mg base CX0 3 f fd ["_law_state", "_law_p"] (spNum (Fin p) 5) := by
  refine F.ok sc_l_tiny (fun vs H Q E h => ?_) (fun cdv A outer s H vs Q E hr h => ?_)
  · obtain ⟨st, gr, n, rfl, _⟩ := h
    rfl
  · obtain ⟨st, gr, n, rfl, hst, hn, k⟩ := h
    have h2 := PP.two
    have hm := PP.most
    refine ⟨_, (pss_cons (ps_if (pt_cmpR op_gt (pv 1) pe_int (nomark _))
      (pss_one (ps_ret (pe_op op_add pe_int (pe_cd D_l_draw (hr.mono (by decide)) pass0 (pa_cons (pv 0) (pa_cons (pe_op op_sub (pv 1) pe_int) pa_nil))))))
      pss_nil)
      (pss_one (ps_ret (pe_cd D_l_low (hr.mono (by decide)) pass0 (pa_cons (pe_op op_mulW (pe_op op_add pe_int (pe_cd D_l_draw (hr.mono (by decide)) pass0 (pa_cons (pv 0) (pa_cons pe_int pa_nil)))) (pe_op op_sub pe_int (pe_op op_mulW pe_int (pe_cd D_l_draw (hr.mono (by decide)) pass0 (pa_cons (pv 0) (pa_cons pe_int pa_nil)))))) (pa_cons (pe_op op_add pe_int (pe_cd D_l_draw (hr.mono (by decide)) pass0 (pa_cons (pv 0) (pa_cons pe_int pa_nil)))) pa_nil)))))), ?_⟩
    refine ⟨_, rfl, _, _, rfl, rfl, _, rfl, ?_⟩
    refine ite2 (fun _ => ?_) (fun z => absurd (decide_eq_true (p_pos (p := p))) z)
    refine ⟨_, rfl, _, rfl, _, _, rfl, rfl, st, gr, n, p - 1, ?_, hst, by omega, by omega, by omega, fun r H' hr2 s' hst' => ?_⟩
    · show [V.ref st, V.int ((p : Int) - 1)] = _
      rw [show (p : Int) - 1 = ((p - 1 : Nat) : Int) by omega]
    · refine ⟨_, _, rfl, rfl, k _ (⟨1 + r, by omega⟩ : Fin p) H' trivial ?_ s' (hst'.mono (by omega))⟩
      show V.int (1 + (r : Int)) = V.int ((1 + r : Nat) : Int)
      rw [show (1 : Int) + (r : Int) = ((1 + r : Nat) : Int) by omega]
theorem ok_l_number_fin {f : Addr} {fd : FuncData} (F : Fun K "_law_number" "_law_number" s_l_number f fd) (D_l_draw : Dfn P w K mg base CX0 1 "_law_draw" ["_law_state", "_law_many"] spDraw)
    (D_l_low : Dfn P w K mg base CX0 2 "_law_low" ["_law_top", "_law_bottom"] spLow) : FnOk P w K mg base CX0 3 f fd ["_law_state", "_law_p"] (spNum (Fin p) 23) := by
  refine F.ok sc_l_number (fun vs H Q E h => ?_) (fun cdv A outer s H vs Q E hr h => ?_)
  · obtain ⟨st, gr, n, rfl, _⟩ := h
    rfl
  · obtain ⟨st, gr, n, rfl, hst, hn, k⟩ := h
    have h2 := PP.two
    have hm := PP.most
    refine ⟨_, (pss_cons (ps_if (pt_cmpR op_gt (pv 1) pe_int (nomark _))
      (pss_one (ps_ret (pe_cd D_l_draw (hr.mono (by decide)) pass0 (pa_cons (pv 0) (pa_cons (pv 1) pa_nil)))))
      pss_nil)
      (pss_cons (ps_set (i := 2) sc_l_number.nd rfl (by first | exact Or.inl rfl | exact Or.inr rfl) (pe_op op_sub (pe_cd D_l_draw (hr.mono (by decide)) pass0 (pa_cons (pv 0) (pa_cons pe_int pa_nil))) pe_int))
      (pss_cons (ps_if (pt_cmpR op_eq (pe_cd D_l_draw (hr.mono (by decide)) pass0 (pa_cons (pv 0) (pa_cons pe_int pa_nil))) pe_int (nomark _))
      (pss_one (ps_set (i := 2) sc_l_number.nd rfl (by first | exact Or.inl rfl | exact Or.inr rfl) (pe_op op_add (pv 2) (pe_cd D_l_draw (hr.mono (by decide)) pass0 (pa_cons (pv 0) (pa_cons (pe_op op_pow pe_int pe_int) pa_nil))))))
      pss_nil)
      (pss_one (ps_ret (pe_cd D_l_low (hr.mono (by decide)) pass0 (pa_cons (pv 2) (pa_cons (pe_op op_add pe_int (pe_cd D_l_draw (hr.mono (by decide)) pass0 (pa_cons (pv 0) (pa_cons pe_int pa_nil)))) pa_nil)))))))), ?_⟩
    refine ⟨_, rfl, _, _, rfl, rfl, _, rfl, ?_⟩
    refine ite2 (fun _ => ?_) (fun z => absurd (decide_eq_true (p_pos (p := p))) z)
    refine ⟨_, rfl, _, rfl, st, gr, n, p, rfl, hst, by omega, by omega, by omega, fun r H' hr2 s' hst' => ?_⟩
    exact k _ (⟨r, hr2⟩ : Fin p) H' trivial rfl s' (hst'.mono (by omega))
end
theorem ok_l_tiny_rat {f : Addr} {fd : FuncData} (F : Fun K "_law_tiny" "_law_tiny" s_l_tiny f fd) (D_l_draw : Dfn P w K mg base CX0 1 "_law_draw" ["_law_state", "_law_many"] spDraw)
    (D_l_low : Dfn P w K mg base CX0 2 "_law_low" ["_law_top", "_law_bottom"] spLow) : FnOk P w K mg base CX0 3 f fd ["_law_state", "_law_p"] (spNum Rat 5) := by
  refine F.ok sc_l_tiny (fun vs H Q E h => ?_) (fun cdv A outer s H vs Q E hr h => ?_)
  · obtain ⟨st, gr, n, rfl, _⟩ := h
    rfl
  · obtain ⟨st, gr, n, rfl, hst, hn, k⟩ := h
    refine ⟨_, (pss_cons (ps_if (pt_cmpR op_gt (pv 1) pe_int (nomark _))
      (pss_one (ps_ret (pe_op op_add pe_int (pe_cd D_l_draw (hr.mono (by decide)) pass0 (pa_cons (pv 0) (pa_cons (pe_op op_sub (pv 1) pe_int) pa_nil))))))
      pss_nil)
      (pss_one (ps_ret (pe_cd D_l_low (hr.mono (by decide)) pass0 (pa_cons (pe_op op_mulW (pe_op op_add pe_int (pe_cd D_l_draw (hr.mono (by decide)) pass0 (pa_cons (pv 0) (pa_cons pe_int pa_nil)))) (pe_op op_sub pe_int (pe_op op_mulW pe_int (pe_cd D_l_draw (hr.mono (by decide)) pass0 (pa_cons (pv 0) (pa_cons pe_int pa_nil)))))) (pa_cons (pe_op op_add pe_int (pe_cd D_l_draw (hr.mono (by decide)) pass0 (pa_cons (pv 0) (pa_cons pe_int pa_nil)))) pa_nil)))))), ?_⟩
    refine ⟨_, rfl, _, _, rfl, rfl, _, rfl, ?_⟩
    refine ite2 rat_p (fun _ => ?_)
    refine ⟨_, rfl, st, gr, n, 4, rfl, hst, by decide, by decide, by omega, fun a Ha ha sa hsa => ⟨_, _, rfl, rfl, ?_⟩⟩
    refine ⟨_, rfl, st, gr, n + 1, 2, rfl, hsa, by decide, by decide, by omega, fun b Hb hb sb hsb => ⟨_, _, rfl, rfl, cm_small (by decide) (by omega), _, _, rfl, rfl, _, _, rfl, rfl, cm_small (by omega) (by omega), ?_⟩⟩
    refine ⟨_, rfl, st, gr, n + 1 + 1, 3, rfl, hsb, by decide, by decide, by omega, fun c Hc hc sc hsc => ⟨_, _, rfl, rfl, ?_⟩⟩
    refine ⟨(1 + (a : Int)) * (1 - 2 * (b : Int)), 1 + (c : Int), rfl, by omega, Nat.lt_of_lt_of_le (show (1 + (c : Int)).natAbs < 4 by omega) (by decide), fun v H' s r => k v _ H' ?_ r ((sa.trans (sb.trans sc)).trans (SX.of s)) ((hsc.same s).mono (by omega))⟩
    rw [show (1 : Int) + (c : Int) = ((1 + c : Nat) : Int) by omega]
    refine six_div (M := 4) (by omega) ?_ (by decide)
    have hb' : (1 - 2 * (b : Int)).natAbs = 1 := by omega
    rw [Int.natAbs_mul, hb', Nat.mul_one]
    omega
theorem ok_l_number_rat {f : Addr} {fd : FuncData} (F : Fun K "_law_number" "_law_number" s_l_number f fd) (D_l_draw : Dfn P w K mg base CX0 1 "_law_draw" ["_law_state", "_law_many"] spDraw)
    (D_l_low : Dfn P w K mg base CX0 2 "_law_low" ["_law_top", "_law_bottom"] spLow) : FnOk P w K mg base CX0 3 f fd ["_law_state", "_law_p"] (spNum Rat 23) := by
  refine F.ok sc_l_number (fun vs H Q E h => ?_) (fun cdv A outer s H vs Q E hr h => ?_)
  · obtain ⟨st, gr, n, rfl, _⟩ := h
    rfl
  · obtain ⟨st, gr, n, rfl, hst, hn, k⟩ := h
    refine ⟨_, (pss_cons (ps_if (pt_cmpR op_gt (pv 1) pe_int (nomark _))
      (pss_one (ps_ret (pe_cd D_l_draw (hr.mono (by decide)) pass0 (pa_cons (pv 0) (pa_cons (pv 1) pa_nil)))))
      pss_nil)
      (pss_cons (ps_set (i := 2) sc_l_number.nd rfl (by first | exact Or.inl rfl | exact Or.inr rfl) (pe_op op_sub (pe_cd D_l_draw (hr.mono (by decide)) pass0 (pa_cons (pv 0) (pa_cons pe_int pa_nil))) pe_int))
      (pss_cons (ps_if (pt_cmpR op_eq (pe_cd D_l_draw (hr.mono (by decide)) pass0 (pa_cons (pv 0) (pa_cons pe_int pa_nil))) pe_int (nomark _))
      (pss_one (ps_set (i := 2) sc_l_number.nd rfl (by first | exact Or.inl rfl | exact Or.inr rfl) (pe_op op_add (pv 2) (pe_cd D_l_draw (hr.mono (by decide)) pass0 (pa_cons (pv 0) (pa_cons (pe_op op_pow pe_int pe_int) pa_nil))))))
      pss_nil)
      (pss_one (ps_ret (pe_cd D_l_low (hr.mono (by decide)) pass0 (pa_cons (pv 2) (pa_cons (pe_op op_add pe_int (pe_cd D_l_draw (hr.mono (by decide)) pass0 (pa_cons (pv 0) (pa_cons pe_int pa_nil)))) pa_nil)))))))), ?_⟩
    refine ⟨_, rfl, _, _, rfl, rfl, _, rfl, ?_⟩
    refine ite2 rat_p (fun _ => ?_)
    refine ⟨_, rfl, st, gr, n, 9, rfl, hst, by decide, by decide, by omega, fun a Ha ha sa hsa => ⟨_, _, rfl, rfl, ?_⟩⟩
    refine ⟨_, rfl, st, gr, n + 1, 12, rfl, hsa, by decide, by decide, by omega, fun b Hb hb sb hsb => ⟨rfl, _, rfl, ?_⟩⟩
    have fin : ∀ (m : Nat) (t : Int) (Hm : Hp), t.natAbs ≤ 1000003 → SX st gr H Hm → StOk st gr m Hm → m ≤ n + 3 →
        (tRet (tCall spLow [] E0 (tCons (tVar 2) (tCons (tOp (rI0 fun i j => V.int (i + j)) (tC (V.int 1)) (tCall spDraw [] E0 (tCons (tVar 0) (tCons (tC (V.int 3)) tNil)))) tNil)))) { nx := fun _ H' => Q .non H', rt := Q } [some (.ref st), some (.int (Fd.p Rat)), some (.int t)] Hm := by
      intro m t Hm ht sm hsm hm
      refine ⟨_, rfl, _, rfl, st, gr, m, 3, rfl, hsm, by decide, by decide, by omega, fun c Hc hc sc hsc => ⟨_, _, rfl, rfl, ?_⟩⟩
      refine ⟨t, 1 + (c : Int), rfl, by omega, Nat.lt_of_lt_of_le (show (1 + (c : Int)).natAbs < 4 by omega) (by decide), fun v H' s r => k v _ H' ?_ r ((sm.trans sc).trans (SX.of s)) ((hsc.same s).mono (by omega))⟩
      rw [show (1 : Int) + (c : Int) = ((1 + c : Nat) : Int) by omega]
      exact six_div (M := 1000003) (by omega) ht (by decide)
    refine ite2 (fun z => ?_) (fun z => ?_)
    · refine ⟨_, rfl, _, rfl, _, _, rfl, rfl, ⟨by decide, by decide, by decide⟩, st, gr, n + 1 + 1, 1000000, ?_, hsb, by decide, by decide, by omega, fun c Hc hc sc hsc => ⟨_, _, rfl, rfl, ?_⟩⟩
      · show [V.ref st, V.int ((10 : Int) ^ (6 : Int).toNat)] = _
        rw [show (10 : Int) ^ (6 : Int).toNat = ((1000000 : Nat) : Int) by decide]
      · exact fin (n + 1 + 1 + 1) _ Hc (by show ((a : Int) - 4 + (c : Int)).natAbs ≤ _; omega) (sa.trans (sb.trans sc)) hsc (by omega)
    · exact fin (n + 1 + 1) _ Hb (by show ((a : Int) - 4).natAbs ≤ _; omega) (sa.trans sb) hsb (by omega)
/-! ### the rows -/
def spRows (α : Type) [Rp α] : Sp := fun vs H Q _ => ∃ (st gr : Addr) (n many width : Nat), vs = [.ref st, .int (Fd.p α), .int (many : Nat), .int (width : Nat)] ∧ StOk st gr n H ∧ many ≤ 7 ∧ width ≤ 6 ∧ n ≤ 10000 ∧
  ∀ v (rows : List (List α)) H', rows.length = many → (∀ r ∈ rows, r.length = width ∧ RowB many r) → SX st gr H H' → StOk st gr (n + 1000) H' → RwsT (off st gr H') v rows → Q v H'
theorem ok_l_rows {α : Type} [Rp α] {f : Addr} {fd : FuncData} (F : Fun K "_law_rows" "_law_rows" s_l_rows f fd) (T : Blt mg) (L : LKit P w K mg base α) (D_l_draw : Dfn P w K mg base CX0 1 "_law_draw" ["_law_state", "_law_many"] spDraw)
    (D_l_tiny : Dfn P w K mg base CX0 3 "_law_tiny" ["_law_state", "_law_p"] (spNum α 5)) (D_l_number : Dfn P w K mg base CX0 3 "_law_number" ["_law_state", "_law_p"] (spNum α 23))
    (D_l_sum : Dfn P w K mg base CX0 4 "_law_sum" ["_law_p", "_law_weights", "_law_rows_here", "_law_width"] (spLSum α)) :
    FnOk P w K mg base CX0 5 f fd ["_law_state", "_law_p", "_law_many", "_law_width"] (spRows α) := by
  have D_l_some := L.some_
  refine F.ok sc_l_rows (fun vs H Q E h => ?_) (fun cdv A outer s H vs Q E hr h => ?_)
  · obtain ⟨st, gr, n, many, width, rfl, _⟩ := h
    rfl
  · obtain ⟨st, gr, n, many, width, rfl, hst, hm, hw, hn, k⟩ := h
    refine ⟨_, (pss_cons (ps_set (i := 4) sc_l_rows.nd rfl (by first | exact Or.inl rfl | exact Or.inr rfl) (pe_lst pa_nil))
      (pss_cons (ps_for PassesOwn.never rfl (pi_range1 rfl T.range (pa_cons (pv 2) pa_nil)) (pg_name (i := 5) sc_l_rows.nd rfl (by first | exact Or.inl rfl | exact Or.inr rfl))
      (pss_cons (ps_set (i := 6) sc_l_rows.nd rfl (by first | exact Or.inl rfl | exact Or.inr rfl) (pe_cd D_l_draw (hr.mono (by decide)) pass0 (pa_cons (pv 0) (pa_cons pe_int pa_nil))))
      (pss_one (ps_if (PW.pt (pw_and (pt_cmpR op_eq (pv 6) pe_int (nomark _)) (pw_and1 (pt_truth (pv 4) (by intro _; rfl)))))
      (pss_cons (ps_set (i := 7) sc_l_rows.nd rfl (by first | exact Or.inl rfl | exact Or.inr rfl) (pe_lst (pa_cons (pe_cd D_l_tiny (hr.mono (by decide)) pass0 (pa_cons (pv 0) (pa_cons (pv 1) pa_nil))) (pa_cons (pe_cd D_l_tiny (hr.mono (by decide)) pass0 (pa_cons (pv 0) (pa_cons (pv 1) pa_nil))) pa_nil))))
      (pss_cons (ps_set (i := 8) sc_l_rows.nd rfl (by first | exact Or.inl rfl | exact Or.inr rfl) (pe_lst (pa_cons (pe_ix (ix_lstK (K := K) rfl) (pv 4) (pe_cd D_l_draw (hr.mono (by decide)) pass0 (pa_cons (pv 0) (pa_cons (pe_callB (call_lenK (K := K) rfl) (by rfl) T.len PySem.boot_len (pa_cons (pv 4) pa_nil)) pa_nil))) (fun _ _ => rfl)) (pa_cons (pe_ix (ix_lstK (K := K) rfl) (pv 4) (pe_cd D_l_draw (hr.mono (by decide)) pass0 (pa_cons (pv 0) (pa_cons (pe_callB (call_lenK (K := K) rfl) (by rfl) T.len PySem.boot_len (pa_cons (pv 4) pa_nil)) pa_nil))) (fun _ _ => rfl)) pa_nil))))
      (pss_one (ps_expr (pe_bm PySem.F.plainAttrs_list PySem.F.slot_list_append PySem.F.type_list_append mt_append (pv 4) (pa_cons (pe_cd D_l_sum (hr.mono (by decide)) pass0 (pa_cons (pv 1) (pa_cons (pv 7) (pa_cons (pv 8) (pa_cons (pv 3) pa_nil))))) pa_nil))))))
      (pss_one (ps_if (PW.pt (pw_and (pt_cmpR op_eq (pv 6) pe_int (nomark _)) (pw_and1 (pt_cmpR op_eq (pe_cd D_l_draw (hr.mono (by decide)) pass0 (pa_cons (pv 0) (pa_cons pe_int pa_nil))) pe_int (nomark _)))))
      (pss_one (ps_expr (pe_bm PySem.F.plainAttrs_list PySem.F.slot_list_append PySem.F.type_list_append mt_append (pv 4) (pa_cons (pe_callTy (call_tupK (K := K) rfl) (by rfl) T.tuple (by decide +kernel) (pa_cons (pe_lc (own := [("_law_i", 9)]) (g := (gName 9)) (tt := tYes) rfl sc_l_rows.nd (pi_range1 rfl T.range (pa_cons (pv 3) pa_nil)) (blkOk_by (own := [("_law_i", 9)]) (N := ["_law_state", "_law_p", "_law_many", "_law_width", "_law_told", "_law_k", "_law_kind", "_law_weights", "_law_picked", "_law_i"]) (sc := (defScope s_l_rows)) (by decide +kernel)) (fun _ _ _ _ _ => pg_name (i := 9) sc_l_rows.nd rfl (by first | exact Or.inl rfl | exact Or.inr rfl)) (fun _ _ _ _ _ => pts_nil) (fun _ _ _ _ _ => (pe_cd D_l_some (hr.mono (by decide)) pass0 (pa_cons (pv 1) (pa_cons pe_int pa_nil))))) pa_nil)) pa_nil))))
      (pss_one (ps_expr (pe_bm PySem.F.plainAttrs_list PySem.F.slot_list_append PySem.F.type_list_append mt_append (pv 4) (pa_cons (pe_callTy (call_tupK (K := K) rfl) (by rfl) T.tuple (by decide +kernel) (pa_cons (pe_lc (own := [("_law_i", 9)]) (g := (gName 9)) (tt := tYes) rfl sc_l_rows.nd (pi_range1 rfl T.range (pa_cons (pv 3) pa_nil)) (blkOk_by (own := [("_law_i", 9)]) (N := ["_law_state", "_law_p", "_law_many", "_law_width", "_law_told", "_law_k", "_law_kind", "_law_weights", "_law_picked", "_law_i"]) (sc := (defScope s_l_rows)) (by decide +kernel)) (fun _ _ _ _ _ => pg_name (i := 9) sc_l_rows.nd rfl (by first | exact Or.inl rfl | exact Or.inr rfl)) (fun _ _ _ _ _ => pts_nil) (fun _ _ _ _ _ => (pe_cd D_l_number (hr.mono (by decide)) pass0 (pa_cons (pv 0) (pa_cons (pv 1) pa_nil))))) pa_nil)) pa_nil))))))))))
      (pss_one (ps_ret (pv 4))))), ?_⟩
    refine ⟨Nat.zero_le _, fun tp ntp => ?_⟩
    obtain ⟨tp1, tp2⟩ := hst.new ntp
    refine ⟨_, rfl, (many : Int), rfl, by omega, by omega, ?_⟩
    refine for_it (walk_r0 (n := ((many : Nat) : Int).toNat)) (fun i σ H1 => SX st gr H H1 ∧ StOk st gr (n + 30 * i) H1 ∧ ∃ (tvs : List V) (rows : List (List α)) (x5 x6 x7 x8 x9 : Option V), σ = [some (.ref st), some (.int (Fd.p α)), some (.int (many : Nat)), some (.int (width : Nat)), some (.ref tp), x5, x6, x7, x8, x9] ∧
        H1 tp = some (.lst tvs) ∧ Al (Row H1) tvs rows ∧ rows.length = i ∧ ∀ r ∈ rows, r.length = width ∧ RowB i r)
      ⟨SX.of (Same.new ntp), (hst.same (Same.new ntp)).mono (by omega), [], [], none, none, none, none, none, rfl, upd_same, Al.nil, rfl, fun r h => by cases h⟩ (fun i σ H1 _ q => trivial) (fun i x σ H1 H' hi q y => ?_) (fun σ H1 q => ?_)
    · obtain ⟨s1, sk1, tvs, rows, x5, x6, x7, x8, x9, rfl, ht, al, hl, hrw⟩ := q
      obtain ⟨rfl, rfl⟩ := y
      -- the row is put behind
      have put : ∀ (m : Nat) (H2 : Hp) (v : V) (r : List α), SX st gr H' H2 → StOk st gr m H2 → m ≤ n + 30 * (i + 1) → Row H2 v r → r.length = width → RowB (i + 1) r → ∀ (y6 y7 y8 y9 : Option V),
          rAppend (.ref tp) [v] H2 fun _ H3 => (SX st gr H H3 ∧ StOk st gr (n + 30 * (i + 1)) H3 ∧ ∃ (tvs : List V) (rows : List (List α)) (x5 x6 x7 x8 x9 : Option V),
            [some (V.ref st), some (V.int (Fd.p α)), some (V.int (many : Nat)), some (V.int (width : Nat)), some (V.ref tp), some (V.int (i : Nat)), y6, y7, y8, y9] = [some (.ref st), some (.int (Fd.p α)), some (.int (many : Nat)), some (.int (width : Nat)), some (.ref tp), x5, x6, x7, x8, x9] ∧
            H3 tp = some (.lst tvs) ∧ Al (Row H3) tvs rows ∧ rows.length = i + 1 ∧ ∀ r ∈ rows, r.length = width ∧ RowB (i + 1) r) := by
        intro m H2 v r s2 sk2 hm2 hr2 hrw2 hrb y6 y7 y8 y9
        have ht2 := s2 _ _ tp1 tp2 ht
        refine ⟨tp, tvs, v, rfl, rfl, ht2, Nat.lt_of_lt_of_le (show tvs.length < 1000 by rw [al.len]; omega) (by decide), ?_⟩
        refine ⟨(s1.trans s2).mut ntp, (sk2.mut tp1 tp2).mono hm2, tvs ++ [v], rows ++ [r], _, _, _, _, _, rfl, upd_same, ?_, by rw [List.length_append, hl]; rfl, fun z hz => ?_⟩
        · exact Al.snoc (al.mono fun _ _ q => (q.ts (s2.tk sk1)).ts (Tk.lst ht2)) (hr2.ts (Tk.lst ht2))
        · rcases List.mem_append.mp hz with h | h
          · exact ⟨(hrw z h).1, (hrw z h).2.up⟩
          · rw [List.mem_singleton.mp h]; exact ⟨hrw2, hrb⟩
      refine ⟨_, rfl, st, gr, n + 30 * i, 4, rfl, sk1, by decide, by decide, by omega, fun kd H2 hkd s2 sk2 => ?_⟩
      have num : ∀ (Hm : Hp) (m : Nat), StOk st gr m Hm → m ≤ 50000 → ∀ (Qn : VK), (∀ v (r : List α) H4, SX st gr Hm H4 → StOk st gr (m + 24) H4 → Row H4 v r → r.length = width → (∀ x ∈ r, Fd.Z 23 (Fd.six * x)) → Qn v H4) →
          tCB (rTupK K) (tCons (tLc (iRng1 (tCons (tVar 3) tNil)) (gName 9) tYes (tCall (spNum α 23) [] E0 (tCons (tVar 0) (tCons (tVar 1) tNil))) [9]) tNil) [some (.ref st), some (.int (Fd.p α)), some (.int (many : Nat)), some (.int (width : Nat)), some (.ref tp), some (.int (i : Nat)), some (.int (kd : Nat)), x7, x8, x9] Hm Qn := by
        intro Hm m skm hm5 Qn kq
        refine ⟨_, rfl, (width : Int), rfl, by omega, by omega, fun D hD => ?_⟩
        refine lc_drw (walk_r0 (n := ((width : Nat) : Int).toNat)) 4 (rep : Hp → V → α → Prop) (fun x => Fd.Z 23 (Fd.six * x)) (by omega) hD skm rep_ts (fun H1 _ => trivial) (fun j x H5 H5' hj s5 sk5 y Nx kk => ?_) (fun H5 acc es s5 sk5 hacc al5 hl5 hz5 => ?_)
        · obtain ⟨rfl, rfl⟩ := y
          refine ⟨rfl, ?_⟩
          exact ⟨_, rfl, _, rfl, st, gr, m + 4 * j, rfl, sk5, by omega, fun v e H6 hz r6 s6 sk6 => kk v e H6 hz r6 s6 (sk6.mono (by omega))⟩
        · refine ⟨D, acc, rfl, .inl ⟨SqL.of hacc, fun l hl => ?_⟩⟩
          exact kq _ es _ (s5.trans (SX.of (Same.new hl))) ((sk5.same (Same.new hl)).mono (by omega)) ⟨l, acc, rfl, upd_same, al_ts (Tk.new hl) al5⟩ (by omega) hz5
      have ht2 := s2 _ _ tp1 tp2 ht
      refine ⟨_, rfl, rfl, _, rfl, ?_⟩
      refine ite2 (fun z => ⟨_, rfl, _, .inl ⟨tvs, SqL.of ht2, rfl⟩, ite2 (fun z2 => ?ca) (fun z2 => ?cb)⟩) (fun z => ?cc)
      case ca =>
        have tpos : 0 < tvs.length := by
          cases tvs with
          | nil => exact absurd z2 (by decide)
          | cons a l => exact Nat.succ_pos _
        have tlen : tvs.length = i := by rw [al.len, hl]
        refine ⟨_, rfl, _, rfl, st, gr, n + 30 * i + 1, rfl, sk2, by omega, fun v1 w1 H3 hz1 r1 s3 sk3 => ?_⟩
        refine ⟨_, rfl, _, rfl, st, gr, n + 30 * i + 1 + 4, rfl, sk3, by omega, fun v2 w2 H4 hz2 r2 s4 sk4 => ⟨(by show 2 ≤ sizeLine; decide), fun wl nwl => ?_⟩⟩
        have s5 : SX st gr H' (upd H4 wl (.lst [v1, v2])) := ((s2.trans s3).trans s4).trans (SX.of (Same.new nwl))
        have sk5 := sk4.same (Same.new (o := .lst [v1, v2]) nwl)
        obtain ⟨wl1, wl2⟩ := sk4.new nwl
        have ht5 := s5 _ _ tp1 tp2 ht
        refine ⟨_, rfl, _, rfl, _, rfl, tp, tvs, rfl, .inl (SqL.of ht5), st, gr, n + 30 * i + 1 + 4 + 4, tvs.length, rfl, sk5, tpos, by omega, by omega, fun a H6 ha s6 sk6 => ?_⟩
        have ht6 := s6 _ _ tp1 tp2 ht5
        obtain ⟨ra, hra⟩ : ∃ ra, tvs[a]? = some ra := ⟨_, List.getElem?_eq_getElem ha⟩
        obtain ⟨Ra, hRa, rra⟩ := al.get hra
        refine ⟨tp, tvs, (a : Int), ra, rfl, rfl, SqL.of ht6, atI_nat hra, ?_⟩
        refine ⟨_, rfl, _, rfl, _, rfl, tp, tvs, rfl, .inl (SqL.of ht6), st, gr, n + 30 * i + 1 + 4 + 4 + 1, tvs.length, rfl, sk6, tpos, by omega, by omega, fun b H7 hb s7 sk7 => ?_⟩
        have ht7 := s7 _ _ tp1 tp2 ht6
        obtain ⟨rb, hrb⟩ : ∃ rb, tvs[b]? = some rb := ⟨_, List.getElem?_eq_getElem hb⟩
        obtain ⟨Rb, hRb, rrb⟩ := al.get hrb
        refine ⟨tp, tvs, (b : Int), rb, rfl, rfl, SqL.of ht7, atI_nat hrb, ⟨(by show 2 ≤ sizeLine; decide), fun pl npl => ?_⟩⟩
        have s8 : SX st gr H' (upd H7 pl (.lst [ra, rb])) := ((s5.trans s6).trans s7).trans (SX.of (Same.new npl))
        have sk8 := sk7.same (Same.new (o := .lst [ra, rb]) npl)
        have ht8 := s8 _ _ tp1 tp2 ht
        have t8 := s8.tk sk1
        have hwl : upd H7 pl (.lst [ra, rb]) wl = some (.lst [v1, v2]) := (Same.new npl) _ _ (s7 _ _ wl1 wl2 (s6 _ _ wl1 wl2 upd_same))
        have tk3 : Tk H3 (upd H7 pl (.lst [ra, rb])) := (s4.tk sk3).trans ((Tk.new nwl).trans ((s6.tk sk5).trans ((s7.tk sk6).trans (Tk.new npl))))
        have tk4 : Tk H4 (upd H7 pl (.lst [ra, rb])) := (Tk.new nwl).trans ((s6.tk sk5).trans ((s7.tk sk6).trans (Tk.new npl)))
        obtain ⟨wa, ba⟩ := hrw Ra (List.mem_of_getElem? hRa)
        obtain ⟨wb, bb⟩ := hrw Rb (List.mem_of_getElem? hRb)
        refine ⟨_, rfl, .inl ⟨rfl, _, SqL.of ht8⟩, _, rfl, _, rfl, _, rfl, _, rfl, .ref wl, .ref pl, [w1, w2], [Ra, Rb], width, rfl, ⟨wl, _, rfl, .inl hwl, ((Al.one (rep_ts tk3 r1)).snoc (rep_ts tk4 r2))⟩, ⟨pl, _, rfl, .inl upd_same, ((Al.one (rra.ts t8).s).snoc (rrb.ts t8).s)⟩, rfl, by omega, (by show 2 ≤ 1000; decide), fun r hr => ?_, pick_ok (by omega) hz1 hz2 ba bb, fun v H9 s9 r9 => ?_⟩
        · rcases List.mem_cons.mp hr with e | hr
          · rw [e]; exact wa
          · rw [List.mem_singleton.mp hr]; exact wb
        · exact put _ H9 v _ (s8.trans (SX.of s9)) (sk8.same s9) (by omega) r9 lawSum_len (pick_rowB hz1 hz2 ba bb) _ _ _ _
      all_goals
        refine ⟨_, rfl, rfl, _, rfl, ?_⟩
        refine ite2 (fun z3 => ⟨_, rfl, st, gr, n + 30 * i + 1, 3, rfl, sk2, by decide, by decide, by omega, fun d H3 hd s3 sk3 => ⟨rfl, _, rfl, ite2 (fun z4 => ?_) (fun z4 => ?_)⟩⟩) (fun z3 => ?_)
        · have ht3 := s3 _ _ tp1 tp2 ht2
          refine ⟨_, rfl, .inl ⟨rfl, _, SqL.of ht3⟩, ?_⟩
          refine ⟨_, rfl, (width : Int), rfl, by omega, by omega, fun D hD => ?_⟩
          refine lc_dat (walk_r0 (n := ((width : Nat) : Int).toNat)) (zeroRow width : List α) rep (by unfold zeroRow; rw [List.length_replicate]; omega) (by omega) hD rep_m1 rep_m2 (fun H1 s => trivial) (fun j x H5 H5' e hj he s5 _ y Nx kk => ?_)
            (fun H5 acc s5 hacc al5 => ⟨D, acc, rfl, .inl ⟨SqL.of hacc, fun l hl => put _ _ _ (zeroRow width) ((s2.trans s3).trans (SX.of (s5.trans (Same.new hl)))) (sk3.same (s5.trans (Same.new hl))) (by omega) ⟨l, acc, rfl, upd_same, al_ts (Tk.new hl) al5⟩ (by unfold zeroRow; rw [List.length_replicate]) zero_rowB _ _ _ _⟩⟩)
          obtain ⟨rfl, rfl⟩ := y
          refine ⟨rfl, ?_⟩
          have eq : e = 0 := by
            unfold zeroRow at he
            exact (List.mem_replicate.mp (List.mem_of_getElem? he)).2
          refine ⟨_, rfl, 0, rfl, .inl rfl, fun v H6 s6 r6 => kk v H6 ?_ s6⟩
          rw [num_cases.1] at r6
          rw [eq]; exact r6
        · have ht3 := s3 _ _ tp1 tp2 ht2
          exact ⟨_, rfl, .inl ⟨rfl, _, SqL.of ht3⟩, num H3 _ sk3 (by omega) _ fun v r H4 s4 sk4 r4 hl4 hz4 => put _ H4 v r ((s2.trans s3).trans s4) sk4 (by omega) r4 hl4 (num_rowB hz4) _ _ _ _⟩
        · exact ⟨_, rfl, .inl ⟨rfl, _, SqL.of ht2⟩, num H2 _ sk2 (by omega) _ fun v r H4 s4 sk4 r4 hl4 hz4 => put _ H4 v r (s2.trans s4) sk4 (by omega) r4 hl4 (num_rowB hz4) _ _ _ _⟩
    · obtain ⟨s1, sk1, tvs, rows, x5, x6, x7, x8, x9, rfl, ht, al, hl, hrw⟩ := q
      have e : ((many : Nat) : Int).toNat = many := by omega
      rw [e] at hl hrw sk1
      exact ⟨_, rfl, k _ rows H1 hl hrw s1 (sk1.mono (by omega)) ⟨tp, tvs, rfl, off_at tp1 tp2 ht, al.mono fun _ _ q => q.ts sk1.offTk⟩⟩
end
end W26

end

/-! ## WRepr -/
section
set_option Elab.async false
set_option linter.all false
set_option maxRecDepth 100000
set_option maxHeartbeats 8000000
/-! repr of nested data; rows as data. -/
namespace W26
open PySem L2 M26
open Rp
/-! ### lengths -/
theorem piled_le {L : Nat} : ∀ (ts : List Str), (∀ t ∈ ts, t.length ≤ L) → piled ts ≤ ts.length * (L + 2)
  | [], _ => Nat.zero_le _
  | t :: r, h => by
    have h1 := h t List.mem_cons_self
    have h2 := piled_le r fun u hu => h u (List.mem_cons_of_mem _ hu)
    rw [piled_cons, List.length_cons, Nat.succ_mul]; omega
theorem tupleText_le {L n : Nat} {ts : List Str} (h : ∀ t ∈ ts, t.length ≤ L) (hn : ts.length ≤ n) : (tupleText ts).length ≤ n * (L + 2) + 3 := by
  have h1 := Nat.le_trans (piled_le ts h) (Nat.mul_le_mul_right (L + 2) hn)
  unfold tupleText
  rw [strLen_append, strLen_append]
  have e1 : ((("(" : String) : Str)).length = 1 := rfl
  have e3 : (((if ts.length == 1 then ",)" else ")" : String) : Str)).length ≤ 2 := by split <;> decide
  cases ts with
  | nil =>
    have e2 : (Str.join ", " ([] : List Str)).length = 0 := rfl
    rw [e1, e2]; omega
  | cons t r =>
    have := join_length_add (t :: r) (by simp)
    rw [e1]; omega
theorem textFrom_le : ∀ (ts : List Str) (k : Nat) (acc : Str), (textFrom k acc ts).length ≤ acc.length + piled ts
  | [], k, acc => by show acc.length ≤ _; omega
  | t :: r, k, acc => by
    have h := textFrom_le r (k + 1) (acc ++ (if k > 0 then ", " else "" : String) ++ t)
    have e : (acc ++ (if k > 0 then ", " else "" : String) ++ t).length = acc.length + (if k > 0 then 2 else 0) + t.length := by
      rw [strLen_append, strLen_append]
      split <;> rfl
    have e2 : (if k > 0 then 2 else 0 : Nat) ≤ 2 := by split <;> decide
    show (textFrom (k + 1) _ r).length ≤ _
    rw [piled_cons]
    omega
theorem listText_le {L n : Nat} {ts : List Str} (h : ∀ t ∈ ts, t.length ≤ L) (hn : ts.length ≤ n) : (listText ts).length ≤ n * (L + 2) + 3 := by
  have h1 := Nat.le_trans (piled_le ts h) (Nat.mul_le_mul_right (L + 2) hn)
  have h2 := textFrom_le ts 0 "["
  have hX : (listText ts).length = (textFrom 0 "[" ts).length + 1 := by
    show (textFrom 0 "[" ts ++ "]").length = _
    rw [strLen_append]; rfl
  have e : (("[" : String) : Str).length = 1 := rfl
  omega
theorem int_text_le {i : Int} (h : i.natAbs < 10 ^ 20) : (PyData.int i).shown.length ≤ 21 := by
  have e := int_text_length_le10 (k := 20) (by decide) h
  show (Str.ofString (toString i)).length ≤ 21
  rw [PySem.ofString_length]
  exact e
theorem shownAll_map : ∀ ds : List PyData, PyData.shownAll ds = ds.map PyData.shown
  | [] => by simp only [PyData.shownAll, List.map_nil]
  | d :: ds => by simp only [PyData.shownAll, List.map_cons, shownAll_map ds]
theorem showableAll_of : ∀ ds : List PyData, (∀ d ∈ ds, d.showable = true) → PyData.showableAll ds = true
  | [], _ => by simp only [PyData.showableAll]
  | d :: ds, h => by
    simp only [PyData.showableAll, h d List.mem_cons_self, showableAll_of ds fun x hx => h x (List.mem_cons_of_mem _ hx), Bool.and_self]
theorem canLayAll_of : ∀ ds : List PyData, (∀ d ∈ ds, d.canLay0 = true) → PyData.canLayAll0 ds = true
  | [], _ => by simp only [PyData.canLayAll0]
  | d :: ds, h => by
    simp only [PyData.canLayAll0, h d List.mem_cons_self, canLayAll_of ds fun x hx => h x (List.mem_cons_of_mem _ hx), Bool.and_self]
theorem depthAll_le {n : Nat} : ∀ ds : List PyData, (∀ d ∈ ds, d.depth ≤ n) → PyData.depthAll ds ≤ n
  | [], _ => by simp only [PyData.depthAll]; omega
  | d :: ds, h => by
    simp only [PyData.depthAll]
    have h1 := h d List.mem_cons_self
    have h2 := depthAll_le ds fun x hx => h x (List.mem_cons_of_mem _ hx)
    omega
theorem eqvAll_refl : ∀ ds : List PyData, (∀ d ∈ ds, PyData.eqv d d = true) → PyData.eqvAll ds ds = true
  | [], _ => by simp [PyData.eqvAll]
  | d :: ds, h => by
    simp only [PyData.eqvAll, h d List.mem_cons_self, eqvAll_refl ds fun x hx => h x (List.mem_cons_of_mem _ hx), Bool.and_self]
theorem eqv_tup {ds : List PyData} (h : ∀ d ∈ ds, PyData.eqv d d = true) : PyData.eqv (.tuple ds) (.tuple ds) = true := by
  simp only [PyData.eqv]
  exact eqvAll_refl ds h
/-- data that is like itself, laid, of a depth -/
structure Nice (n : Nat) (d : PyData) : Prop where
  lay : d.canLay0 = true
  dep : d.depth ≤ n
  refl : PyData.eqv d d = true
theorem Nice.tup {n : Nat} {ds : List PyData} (h : ∀ d ∈ ds, Nice n d) : Nice (n + 1) (.tuple ds) :=
  ⟨by simp only [PyData.canLay0]; exact canLayAll_of ds fun d hd => (h d hd).lay, by simp only [PyData.depth]; have := depthAll_le ds fun d hd => (h d hd).dep; omega, eqv_tup fun d hd => (h d hd).refl⟩
theorem Nice.lst {n : Nat} {ds : List PyData} (h : ∀ d ∈ ds, d.canLay0 = true ∧ d.depth ≤ n) : (PyData.list ds).canLay0 = true ∧ (PyData.list ds).depth ≤ n + 1 :=
  ⟨by simp only [PyData.canLay0]; exact canLayAll_of ds fun d hd => (h d hd).1, by simp only [PyData.depth]; have := depthAll_le ds fun d hd => (h d hd).2; omega⟩
theorem Nice.shaped {n : Nat} {d : PyData} (h : Nice n d) (hn : n ≤ 64) : SeqAt.shaped d = true := by
  show (d.canLay0 && decide (d.depth ≤ 64)) = true
  rw [h.lay, decide_eq_true (Nat.le_trans h.dep hn)]; rfl
/-- numbers that can be shown -/
class Shp (α : Type) [Rp α] : Prop where
  nice : ∀ x : α, Nice 1 (dat x)
  text : ∀ {D x : α} {n : Nat}, D ≠ 0 → n ≤ 60 → Fd.Z n D → Fd.Z n (D * x) → (dat x).showable = true ∧ (dat x).shown.length ≤ 60
theorem show_int {i : Int} (h : i.natAbs < 2 ^ 60) : (PyData.int i).showable = true ∧ (PyData.int i).shown.length ≤ 21 := by
  refine ⟨?_, int_text_le (Nat.lt_of_lt_of_le h (by decide))⟩
  simp only [PyData.showable]
  exact decide_eq_true (PySem.Flt.log2_lt_of (by decide) (Nat.lt_of_lt_of_le h (Nat.pow_le_pow_right (by decide) (by decide))))
instance finShp {p : Nat} [PP : PrimeP p] : Shp (Fin p) where
  nice := fun x => ⟨rfl, Nat.zero_le _, by rw [dat_eqv]; exact decide_eq_true rfl⟩
  text := fun {D x n} _ _ _ _ => by
    have h := x.isLt
    have hm := PP.most
    obtain ⟨a, b⟩ := show_int (i := ((x.val : Nat) : Int)) (Nat.lt_of_lt_of_le (show ((x.val : Nat) : Int).natAbs < 10000 by omega) (by decide))
    exact ⟨a, Nat.le_trans b (by decide)⟩
instance ratShp : Shp Rat where
  nice := fun x => ⟨rfl, by show (PyData.tuple [.int x.num, .int (x.den : Int)]).depth ≤ 1; simp [PyData.depth, PyData.depthAll], by rw [dat_eqv]; exact decide_eq_true rfl⟩
  text := fun {D x n} hD hn h1 h2 => by
    obtain ⟨b1, b2⟩ := RZ.bound hD h1 h2
    have up : 2 ^ n ≤ 2 ^ 60 := Nat.pow_le_pow_right (by decide) hn
    obtain ⟨a1, a2⟩ := show_int (i := x.num) (by omega)
    obtain ⟨a3, a4⟩ := show_int (i := (x.den : Int)) (by omega)
    refine ⟨?_, ?_⟩
    · show (PyData.tuple [.int x.num, .int (x.den : Int)]).showable = true
      simp only [PyData.showable]
      exact showableAll_of _ fun d hd => by
        rcases List.mem_cons.mp hd with e | hd
        · rw [e]; exact a1
        · rw [List.mem_singleton.mp hd]; exact a3
    · show (PyData.tuple [.int x.num, .int (x.den : Int)]).shown.length ≤ 60
      simp only [PyData.shown]
      rw [shownAll_map]
      refine Nat.le_trans (tupleText_le (L := 21) (n := 2) (fun t ht => ?_) (Nat.le_refl _)) (by decide)
      rcases List.mem_cons.mp ht with e | ht
      · rw [e]; exact a2
      · rw [List.mem_singleton.mp ht]; exact a4
/-! ### rows as data -/
section
variable {α : Type} [Rp α] {K : PySem.W.Frag}
theorem dpAll {β : Type} {R : V → β → Prop} {f : β → PyData} {H : Hp} : ∀ {vs : List V} {xs : List β}, Al R vs xs → (∀ v x, R v x → Dp K H v (f x)) → DpAll K H vs (xs.map f)
  | [], [], _, _ => .nil
  | [], _ :: _, h, _ => absurd h.len (by simp)
  | _ :: _, [], h, _ => absurd h.len (by simp)
  | v :: vs, x :: xs, h, k => .cons (k v x (h.all 0 v x rfl rfl)) (dpAll (R := R) ⟨by have := h.len; simpa using this, fun i v' x' a b => h.all (i + 1) v' x' a b⟩ k)
def rowD (xs : List α) : PyData := .tuple (xs.map dat)
def rowsD (rows : List (List α)) : PyData := .tuple (rows.map rowD)
theorem Row.dp {H : Hp} {v : V} {xs : List α} (h : Row H v xs) : Dp K H v (rowD xs) := by
  obtain ⟨a, vs, rfl, ha, al⟩ := h
  exact .tup (SqT.of ha) (dpAll al fun _ _ r => rep_dp r)
theorem RwsU.dp {H : Hp} {v : V} {rows : List (List α)} (h : RwsU H v rows) : Dp K H v (rowsD rows) := by
  obtain ⟨a, vs, rfl, ha, al⟩ := h
  exact .tup (SqT.of ha) (dpAll al fun _ _ r => r.dp)
variable [Shp α]
theorem rowD_nice (xs : List α) : Nice 2 (rowD xs) := Nice.tup fun d hd => by
  obtain ⟨x, _, rfl⟩ := List.mem_map.mp hd
  exact Shp.nice x
theorem rowsD_nice (rows : List (List α)) : Nice 3 (rowsD rows) := Nice.tup fun d hd => by
  obtain ⟨x, _, rfl⟩ := List.mem_map.mp hd
  exact rowD_nice x
/-- data of a row, a list or a tuple -/
def RowDat (xs : List α) (d : PyData) : Prop := d = .list (xs.map dat) ∨ d = .tuple (xs.map dat)
theorem RowS.dp {H : Hp} {v : V} {xs : List α} (h : RowS H v xs) : ∃ d, Dp K H v d ∧ RowDat xs d := by
  obtain ⟨a, vs, rfl, ha | ha, al⟩ := h
  · exact ⟨_, .lst (SqL.of ha) (dpAll al fun _ _ r => rep_dp r), .inl rfl⟩
  · exact ⟨_, .tup (SqT.of ha) (dpAll al fun _ _ r => rep_dp r), .inr rfl⟩
/-- what repr asks -/
structure ReprOk (n L : Nat) (d : PyData) : Prop where
  lay : d.canLay0 = true
  dep : d.depth ≤ n
  sh : d.showable = true
  len : d.shown.length ≤ L
theorem row_repr {xs : List α} {d : PyData} (h : RowDat xs d) (hl : xs.length ≤ 10) (hx : ∀ x ∈ xs, (dat x).showable = true ∧ (dat x).shown.length ≤ 60) : ReprOk 2 623 d := by
  have h1 : ∀ d ∈ xs.map dat, d.showable = true := fun d hd => by
    obtain ⟨x, hm, rfl⟩ := List.mem_map.mp hd
    exact (hx x hm).1
  have h2 : ∀ t ∈ (xs.map dat).map PyData.shown, t.length ≤ 60 := fun t ht => by
    obtain ⟨d, hd, rfl⟩ := List.mem_map.mp ht
    obtain ⟨x, hm, rfl⟩ := List.mem_map.mp hd
    exact (hx x hm).2
  have h3 : ∀ d ∈ xs.map dat, d.canLay0 = true ∧ d.depth ≤ 1 := fun d hd => by
    obtain ⟨x, hm, rfl⟩ := List.mem_map.mp hd
    exact ⟨(Shp.nice x).lay, (Shp.nice x).dep⟩
  have h4 : ((xs.map dat).map PyData.shown).length ≤ 10 := by rw [List.length_map, List.length_map]; exact hl
  rcases h with rfl | rfl
  · exact ⟨(Nice.lst h3).1, (Nice.lst h3).2, by simp only [PyData.showable]; exact showableAll_of _ h1, by simp only [PyData.shown]; rw [shownAll_map]; exact listText_le (L := 60) (n := 10) h2 h4⟩
  · exact ⟨(rowD_nice xs).lay, (rowD_nice xs).dep, by simp only [PyData.showable]; exact showableAll_of _ h1, by simp only [PyData.shown]; rw [shownAll_map]; exact tupleText_le (L := 60) (n := 10) h2 h4⟩
theorem Al.pick {β γ : Type} {R : V → β → Prop} {Φ : V → β → γ → Prop} : ∀ {vs : List V} {xs : List β}, Al R vs xs → (∀ v x, R v x → x ∈ xs → ∃ d, Φ v x d) → ∃ ds : List γ, ds.length = xs.length ∧ ∀ (i : Nat) (v : V) (x : β) (d : γ), vs[i]? = some v → xs[i]? = some x → ds[i]? = some d → Φ v x d
  | [], [], _, _ => ⟨[], rfl, fun i v x d h => by simp at h⟩
  | [], _ :: _, h, _ => absurd h.len (by simp)
  | _ :: _, [], h, _ => absurd h.len (by simp)
  | v :: vs, x :: xs, h, k => by
    obtain ⟨d, hd⟩ := k v x (h.all 0 v x rfl rfl) List.mem_cons_self
    obtain ⟨ds, hl, hds⟩ := Al.pick (R := R) (Φ := Φ) (vs := vs) (xs := xs) ⟨by have := h.len; simpa using this, fun i v' x' a b => h.all (i + 1) v' x' a b⟩ (fun v' x' r m => k v' x' r (List.mem_cons_of_mem _ m))
    refine ⟨d :: ds, by rw [List.length_cons, hl]; rfl, fun i v' x' d' a b c => ?_⟩
    cases i with
    | zero => cases a; cases b; cases c; exact hd
    | succ i => exact hds i v' x' d' a b c
theorem dpAll_of {H : Hp} : ∀ {vs : List V} {ds : List PyData}, vs.length = ds.length → (∀ (i : Nat) v d, vs[i]? = some v → ds[i]? = some d → Dp K H v d) → DpAll K H vs ds
  | [], [], _, _ => .nil
  | [], _ :: _, h, _ => absurd h (by simp)
  | _ :: _, [], h, _ => absurd h (by simp)
  | v :: vs, d :: ds, h, k => .cons (k 0 v d rfl rfl) (dpAll_of (by simpa using h) fun i v' d' a b => k (i + 1) v' d' a b)
/-- the rows' data, and that it can be shown; it stands while the heap grows -/
theorem Rws.repr {H : Hp} {v : V} {rows : List (List α)} (h : Rws H v rows) (hl : rows.length ≤ 10) (hw : ∀ r ∈ rows, r.length ≤ 10) (hx : ∀ r ∈ rows, ∀ x ∈ r, (dat x).showable = true ∧ (dat x).shown.length ≤ 60) :
    ∃ d, ReprOk 3 10000 d ∧ (∀ H', Same H H' → Dp K H' v d) := by
  obtain ⟨a, vs, rfl, ha, al⟩ := h
  obtain ⟨ds, dl, hds⟩ := Al.pick (R := RowS H) (Φ := fun v (x : List α) d => RowDat x d ∧ ∀ H', Same H H' → Dp K H' v d) al (fun v x r m => by
    obtain ⟨b, us, rfl, hb | hb, ab⟩ := r
    · exact ⟨_, .inl rfl, fun H' s => .lst (SqL.of (s _ _ hb)) (dpAll (al_ts (Tk.of s) ab) fun _ _ r => rep_dp r)⟩
    · exact ⟨_, .inr rfl, fun H' s => .tup (SqT.of (s _ _ hb)) (dpAll (al_ts (Tk.of s) ab) fun _ _ r => rep_dp r)⟩)
  have each : ∀ d ∈ ds, ReprOk 2 623 d := fun d hd => by
    obtain ⟨i, hi, e⟩ := List.getElem_of_mem hd
    have hix : i < rows.length := by omega
    have hiv : i < vs.length := by rw [al.len]; exact hix
    have q := hds i vs[i] rows[i] d (List.getElem?_eq_getElem hiv) (List.getElem?_eq_getElem hix) (by rw [List.getElem?_eq_getElem hi, e])
    exact row_repr q.1 (hw _ (List.getElem_mem hix)) (hx _ (List.getElem_mem hix))
  refine ⟨.list ds, ⟨(Nice.lst fun d hd => ⟨(each d hd).lay, (each d hd).dep⟩).1, (Nice.lst fun d hd => ⟨(each d hd).lay, (each d hd).dep⟩).2, ?_, ?_⟩, fun H' s => .lst (SqL.of (s _ _ ha)) (dpAll_of (by rw [al.len, dl]) fun i v' d' h1 h2 => ?_)⟩
  · simp only [PyData.showable]; exact showableAll_of _ fun d hd => (each d hd).sh
  · simp only [PyData.shown]
    rw [shownAll_map]
    refine Nat.le_trans (listText_le (L := 623) (n := 10) (fun t ht => ?_) (by rw [List.length_map]; omega)) (by decide)
    obtain ⟨d, hd, rfl⟩ := List.mem_map.mp ht
    exact (each d hd).len
  · have hiv := (List.getElem?_eq_some_iff.mp h1).1
    have hix : i < rows.length := by rw [← al.len]; exact hiv
    exact (hds i v' rows[i] d' h1 (List.getElem?_eq_getElem hix) h2).2 H' s
end
/-! ### repr -/
def rRepr (K : PySem.W.Frag) : List V → Hp → VK → Prop := fun xs H Q => ∃ (a : Addr) (d : PyData), xs = [.ref a] ∧ Dp K H (.ref a) d ∧ ReprOk 3 10000 d ∧ Q (.str d.shown) H
theorem call_repr_data {X : Cx} (hg : X.A.guards = some []) (hu : X.A.units + 64 < cLine) : CallR X (.builtin "repr") (rRepr X.K) := by
  intro pins s σ H xs us Q I r h
  obtain ⟨a, d, rfl, hd, ok, q⟩ := h
  obtain ⟨u, rfl, ru⟩ := vals1 r
  have eu : u = Value.ref a := ru
  subst eu
  obtain ⟨as, rd⟩ := Dp.reads I d _ _ hd rfl
  refine repr_of_reads' rd ok.sh (PyData.noDict_hsm (PyData.hasDict_of_canLay d ok.lay)) hg (by have := ok.dep; omega) (fun _ _ e => e) (fun h' u tk k => ?_) (Nat.le_trans ok.len (by decide))
  exact ⟨.str d.shown, H, I.kept (t' := tk) k, ⟨_, rfl⟩, q⟩
end W26

end

/-! ## WLaw3 -/
section
set_option Elab.async false
set_option linter.all false
set_option maxRecDepth 100000
set_option maxHeartbeats 8000000
/-! The law's askings. -/
namespace W26
open PySem L2 M26
open Rp
section
variable {P : Program} {w : World} {K : PySem.W.Frag} {mg : Str → Option Value} {base : Heap}
abbrev s_l_field : Stmt := topS 48
theorem sc_l_field : FnScope ["_law_p"] ["_law_p"] (defScope s_l_field) :=
  ⟨rfl, rfl, rfl, by decide +kernel, rfl, by decide +kernel, by decide +kernel⟩
abbrev s_l_right_weights : Stmt := topS 52
theorem sc_l_right_weights : FnScope ["_law_p", "_law_field_here", "_law_rows_here", "_law_row", "_law_due", "_law_told"] ["_law_p", "_law_field_here", "_law_rows_here", "_law_row", "_law_due"] (defScope s_l_right_weights) :=
  ⟨rfl, rfl, rfl, by decide +kernel, rfl, by decide +kernel, by decide +kernel⟩
abbrev s_l_undone : Stmt := topS 53
theorem sc_l_undone : FnScope ["_law_p", "_law_field_here", "_law_rows_here", "_law_size", "_law_told", "e", "_law_units", "_law_i", "_law_row", "_law_k"] ["_law_p", "_law_field_here", "_law_rows_here"] (defScope s_l_undone) :=
  ⟨rfl, rfl, rfl, by decide +kernel, rfl, by decide +kernel, by decide +kernel⟩
/-- the field's object -/
def spField (α : Type) [Rp α] (C : Addr) : Sp := fun vs H Q _ => vs = [.int (Fd.p α)] ∧ ∀ fo H', Same H H' → FO α C H' fo → Q (.ref fo) H'
theorem made_same {H : Hp} {x dx : Addr} {o u : HO} {H' : Hp} (hx : H x = none) (hdx : H dx = none) (hk : ∀ b o', upd (upd H dx o) x u b = some o' → b ≠ x → H' b = some o') : Same H H' := fun b o' e => by
  have n1 := ne_of_none e hx
  have n2 := ne_of_none e hdx
  exact hk b o' (by rw [upd_ne n1, upd_ne n2]; exact e) n1
theorem ok_l_field_fin {p : Nat} [PP : PrimeP p] {CR CF : Addr} {f : Addr} {fd : FuncData} (F : Fun K "_law_field" "_law_field" s_l_field f fd) (D_RestField : Mkr P w K mg base CX0 3 "RestField" CR ["self", "prime"] (spInit (Fin p) CR [.int (p : Nat)]))
    (D_FractionField : Mkr P w K mg base CX0 3 "FractionField" CF ["self"] (spInit Rat CF [])) : FnOk P w K mg base CX0 5 f fd ["_law_p"] (spField (Fin p) CR) := by
  refine F.ok sc_l_field (fun vs H Q E h => ?_) (fun cdv A outer s H vs Q E hr h => ?_)
  · obtain ⟨rfl, _⟩ := h
    rfl
  · obtain ⟨rfl, k⟩ := h
    refine ⟨_, (pss_cons (ps_if (pt_cmpR op_gt (pv 0) pe_int (nomark _))
      (pss_one (ps_ret (pe_mkd D_RestField (hr.mono (by decide)) pass0 (pa_cons (pv 0) pa_nil))))
      pss_nil)
      (pss_one (ps_ret (pe_mkd0 D_FractionField (hr.mono (by decide)) pass0)))), ?_⟩
    refine ⟨_, rfl, _, _, rfl, rfl, _, rfl, ?_⟩
    refine ite2 (fun _ => ?_) (fun z => absurd (decide_eq_true (p_pos (p := p))) z)
    refine ⟨_, rfl, fun x dx nx ndx nex => ⟨x, dx, rfl, upd_same, fun H' hf hk => ⟨rfl, k x H' (made_same nx ndx hk) hf⟩⟩⟩
theorem ok_l_field_rat {p : Nat} [PP : PrimeP p] {CR CF : Addr} {f : Addr} {fd : FuncData} (F : Fun K "_law_field" "_law_field" s_l_field f fd) (D_RestField : Mkr P w K mg base CX0 3 "RestField" CR ["self", "prime"] (spInit (Fin p) CR [.int (p : Nat)]))
    (D_FractionField : Mkr P w K mg base CX0 3 "FractionField" CF ["self"] (spInit Rat CF [])) : FnOk P w K mg base CX0 5 f fd ["_law_p"] (spField Rat CF) := by
  refine F.ok sc_l_field (fun vs H Q E h => ?_) (fun cdv A outer s H vs Q E hr h => ?_)
  · obtain ⟨rfl, _⟩ := h
    rfl
  · obtain ⟨rfl, k⟩ := h
    refine ⟨_, (pss_cons (ps_if (pt_cmpR op_gt (pv 0) pe_int (nomark _))
      (pss_one (ps_ret (pe_mkd D_RestField (hr.mono (by decide)) pass0 (pa_cons (pv 0) pa_nil))))
      pss_nil)
      (pss_one (ps_ret (pe_mkd0 D_FractionField (hr.mono (by decide)) pass0)))), ?_⟩
    refine ⟨_, rfl, _, _, rfl, rfl, _, rfl, ?_⟩
    refine ite2 rat_p (fun _ => ?_)
    exact fun x dx nx ndx nex => ⟨x, dx, rfl, upd_same, fun H' hf hk => ⟨rfl, k x H' (made_same nx ndx hk) hf⟩⟩
end
section
variable {P : Program} {w : World} {K : PySem.W.Frag} {mg : Str → Option Value} {base : Heap} {α : Type} [Rp α] [Shp α] {C : Addr}
/-- weights: as they are due -/
def spRight (α : Type) [Rp α] (C : Addr) : Sp := fun vs H Q _ => ∃ (fo : Addr) (vr vx : V) (rows : List (List α)) (row : List α) (wd B M : Nat) (due : Bool) (D0 E0 : α), vs = [.int (Fd.p α), .ref fo, vr, vx, .bl due] ∧ FO α C H fo ∧ Rws H vr rows ∧ RowS H vx row ∧ RedOk rows wd B ∧ row.length = wd ∧
  Cf D0 M row ∧ B ≤ M ∧ M ≤ 64 ∧ E0 ≠ 0 ∧ Fd.Z B E0 ∧ (∀ r ∈ rows, Cf E0 B r) ∧ (due = true ↔ Sp (rows.map fn) (fn row)) ∧ ∀ H', Same H H' → Q (.bl true) H'
theorem sum_back {wd : Nat} {rows : List (List α)} {row ws : List α} (hw : ∀ r ∈ rows, r.length = wd) (hr : row.length = wd) (h : weightsFor rows row = some ws) : lawSum ws rows wd = row := by
  obtain ⟨h1, h2⟩ := weightsFor_some hw hr h
  refine fn_ext (by rw [lawSum_len, hr]) fun i hi => ?_
  rw [fn_lawSum' hw, h2 i]
theorem ok_l_right {f : Addr} {fd : FuncData} (F : Fun K "_law_right_weights" "_law_right_weights" s_l_right_weights f fd) (T : Blt mg)
    (D_weights_for : Dfn P w K mg base CX0 6 "weights_for" ["field", "rows", "row"] (spWts α C)) (D_l_good_row : Dfn P w K mg base CX0 3 "_law_good_row" ["_law_p", "_law_row", "_law_width"] (spGoodRow α))
    (D_l_sum : Dfn P w K mg base CX0 4 "_law_sum" ["_law_p", "_law_weights", "_law_rows_here", "_law_width"] (spLSum α)) :
    FnOk P w K mg base CX0 7 f fd ["_law_p", "_law_field_here", "_law_rows_here", "_law_row", "_law_due"] (spRight α C) := by
  refine F.ok sc_l_right_weights (fun vs H Q E h => ?_) (fun cdv A outer s H vs Q E hr h => ?_)
  · obtain ⟨fo, vr, vx, rows, row, wd, B, M, due, D0, E0, rfl, _⟩ := h
    rfl
  · obtain ⟨fo, vr, vx, rows, row, wd, B, M, due, D0, E0, rfl, hF, hR, hX, ok, hw, hD, hBM, hM, hE, zE, hrc, hdue, k⟩ := h
    refine ⟨_, (pss_cons (ps_set (i := 5) sc_l_right_weights.nd rfl (by first | exact Or.inl rfl | exact Or.inr rfl) (pe_cd D_weights_for (hr.mono (by decide)) pass0 (pa_cons (pv 1) (pa_cons (pv 2) (pa_cons (pv 3) pa_nil)))))
      (pss_cons (ps_if (pt_not (pt_truth (pv 4) (by intro _; rfl)))
      (pss_one (ps_ret (pe_cmpR op_isN (pv 5) pe_non (nomark _))))
      pss_nil)
      (pss_one (ps_ret (pe_and (pe_cd D_l_good_row (hr.mono (by decide)) pass0 (pa_cons (pv 0) (pa_cons (pv 5) (pa_cons (pe_callB (call_lenK (K := K) rfl) (by rfl) T.len PySem.boot_len (pa_cons (pv 2) pa_nil)) pa_nil)))) (pe_one (pe_cmpR (op_eqK (K := K) rfl hr.units) (pe_cd D_l_sum (hr.mono (by decide)) pass0 (pa_cons (pv 0) (pa_cons (pv 5) (pa_cons (pv 2) (pa_cons (pe_callB (call_lenK (K := K) rfl) (by rfl) T.len PySem.boot_len (pa_cons (pv 3) pa_nil)) pa_nil))))) (pe_callTy (call_tupRow (α := α)) (by rfl) T.tuple (by decide +kernel) (pa_cons (pv 3) pa_nil)) (nomark _)))))))), ?_⟩
    refine ⟨_, rfl, _, rfl, _, rfl, fo, vr, vx, rows, row, wd, B, M, rfl, hF, hR, hX, ok, hw, ⟨D0, hD⟩, hBM, hM, fun hn H' s => ?_, fun ws hws v H' s rv => ?_⟩
    · have hd : due = false := by
        cases due with
        | false => rfl
        | true => exact absurd (hdue.mp rfl) ((weightsFor_none ok.wid hw).mp hn)
      subst hd
      refine ⟨_, rfl, _, rfl, iteT ?_⟩
      exact ⟨_, rfl, rfl, k H' s⟩
    · have hd : due = true := by
        refine hdue.mpr (Classical.byContradiction fun z => ?_)
        rw [(weightsFor_none ok.wid hw).mpr z] at hws
        cases hws
      subst hd
      refine ⟨_, rfl, _, rfl, iteF ?_⟩
      obtain ⟨wl, _⟩ := weightsFor_some ok.wid hw hws
      obtain ⟨ra, rvs, er, hra, ar⟩ := id (hR.same s)
      obtain ⟨xa, xvs, ex, hxa, ax⟩ := id (hX.same s)
      subst er; subst ex
      refine ⟨_, rfl, _, rfl, _, rfl, ra, rvs, rfl, .inl (SqL.of hra), ?_⟩
      rw [ar.len]
      refine ⟨v, ws, rows.length, rfl, rv, wl, true, rfl, iteT ?_⟩
      obtain ⟨E, hE2⟩ := weightsFor_cf (rows := rows) (B := B) (fun r hr => ⟨E0, hrc r hr⟩)
      have cw := hE2 hBM hD hws
      have n6 := it_le (j := rows.length) ok.len hM
      have hB := ok.hB
      have l6 := ok.len
      have hwm := ok.wm
      refine ⟨_, rfl, _, rfl, _, rfl, _, rfl, xa, xvs, rfl, (hxa.elim (fun q => .inl (SqL.of q)) fun q => .inr (SqT.of q)), ?_⟩
      rw [ax.len, hw]
      refine ⟨v, .ref ra, ws, rows, wd, rfl, rv.s, (hR.same s).g, wl, hwm, by omega, ok.wid, sum_ok cw hrc hE zE (by omega), fun v2 H2 s2 r2 => ?_⟩
      refine ⟨_, rfl, .ref xa, row, rfl, hX.same (s.trans s2), fun v3 H3 s3 r3 => ?_⟩
      rw [sum_back ok.wid hw hws] at r2
      refine ⟨rowD row, rowD row, (r2.ts (Tk.of s3)).dp, r3.dp, (rowD_nice row).shaped (by decide), (rowD_nice row).shaped (by decide), ?_⟩
      rw [(rowD_nice row).refl]
      exact k H3 (s.trans (s2.trans s3))
end
end W26

end

/-! ## WHot -/
section
set_option Elab.async false
set_option linter.all false
set_option maxRecDepth 100000
set_option maxHeartbeats 4000000
/-! Walks while an error is handled: calls, loops, comprehensions (after HandS.HotCalls and HandS.Comp). -/
namespace PySem
open PySem.Sem (wp)
/-- a list's iterator ends while an error is handled -/
theorem list_end_hot {prog : Program} {w : World} {A : Around} {E : Value → Shared → Prop} {s : Shared} {it l x1 : Addr} {i : Nat} {items : Array Value} {Q : Option Value → Shared → Prop} (hot : HotX.HotAt A x1 s.heap)
    (hit : s.heap.IsListIter it l i) (hl : s.heap.IsList l items) (hx : items[i]? = none)
    (hQ : ∀ h', (∀ b o, b ≠ it → s.heap.get? b = some o → h'.get? b = some o) → Q none { s with heap := h' }) : wpAny (model prog w) A (pyNext (.ref it)) Q E s := by
  obtain ⟨o, ho, hc, hd⟩ := id hit
  obtain ⟨ol, hol, _, nl, hdl⟩ := hl
  obtain ⟨hh, o1, vs1, h1, d1, c1⟩ := hot
  have nit : it ≠ x1 := fun z => by
    rw [z, h1] at ho
    cases ho
    rw [hd] at d1
    cases d1
    cases c1
  unfold pyNext
  refine wpAny_bind (wpAny_attempt (wpAny_callSpecial?_slot (name := Str.ofString "__next__") hit.typeIs slot_listiter_next
    (wpAny_call_entry slot_listiter_next hit.typeIs entry_listiter_next ?_ (args_listiter_next _))))
  show wpAny _ _ (field (.ref it) 0 >>= _) _ _ s
  refine wpAny_bind (wpAny_field ho hd (x := .ref l) rfl ?_)
  show wpAny _ _ (if (Value.ref l == Value.none) = true then _ else _) _ _ s
  rw [if_neg (show ¬ ((Value.ref l == Value.none) = true) from Bool.false_ne_true)]
  show wpAny _ _ (field (.ref it) 1 >>= _) _ _ s
  refine wpAny_bind (wpAny_field ho hd (x := .int i 0) rfl ?_)
  show wpAny _ _ (seqItems? (.ref l) >>= _) _ _ s
  refine wpAny_bind (wpAny_seqItems hol hdl ?_)
  simp only [Int.toNat_natCast, hx]
  refine wpAny_bind (wpAny_rule (wpAny_bind (wpAny_setField ho hd (by simp) ?_)))
  show wpAny _ _ (newExc (.type "StopIteration") [] >>= _) _ _ _
  refine wpAny_bind ?_
  simp only [newExc, newTuple]
  refine wpAny_bind (wpAny_newObj_type ?_ (by size_fits))
  refine wpAny_bind (m := firstArgMember _ _) (wpAny_of_eq (a := Value.none) (by first | rfl | (simp only [firstArgMember]; rfl)) ?_)
  refine wpAny_newObj_type ?_ (by size_fits)
  have g1 : ∀ (f : Array Value → Array Value) b u, b ≠ it → s.heap.get? b = some u → (s.heap.update it (Obj.mapFields f)).get? b = some u := fun f b u hb e => by
    rw [Heap.get?_update_other _ _ (Ne.symm hb)]; exact e
  refine HotX.raiseNew_hot (x1 := x1) ⟨hh, o1, vs1, Heap.get?_push_of_some _ (Heap.get?_push_of_some _ (g1 _ _ _ (Ne.symm nit) h1)), d1, c1⟩ (Nat.ne_of_lt (Heap.lt_size (Heap.get?_push_of_some _ (g1 _ _ _ (Ne.symm nit) h1)))) (Heap.get?_push_size _ rfl) rfl (by first | (simp; done) | (simp; omega) | (simp only [Array.size_append]; simp; omega)) ?_
  refine wpAny_bind (wpAny_isInstance (T := "StopIteration") (b := true) ⟨_, Heap.get?_update_self _ (Heap.get?_push_size _ rfl) rfl, rfl⟩ isSubtype_stop ?_)
  refine wpAny_pure (hQ _ fun b u hb e => ?_)
  have e2 := Heap.get?_push_of_some (h := (s.heap.update it (Obj.mapFields fun v => v.setIfInBounds 0 Value.none))) { cls := .type "tuple", data := .seq ([] : List Value).toArray } (g1 _ b u hb e)
  rw [Heap.get?_update_other _ _ (Nat.ne_of_gt (Heap.lt_size e2))]
  exact Heap.get?_push_of_some _ e2
end PySem
namespace W26
open PySem PySem.Spec PyProof.Rows L2 M26
open Rp
open L2H (Hot1 PinOk HotC RoomH FnH)
/-- the handled error stands, whatever the state -/
def HotB (X : Cx) : Prop := ∃ p : Addr × Obj, Hot1 X.A p ∧ ∀ (pins : List (Addr × Obj)) (σ : L2.St) (H : Hp) (s : Shared), Inv X pins σ H s → PinOk X.stack H s p
theorem HotB.of {X : Cx} (c : HotC X) : HotB X := by
  obtain ⟨p, hot, hp⟩ := c
  refine ⟨p, hot, fun pins σ H s I => ?_⟩
  have P1 := I.pin p (List.mem_append_left _ hp)
  exact ⟨P1.1, P1.2.1, fun hm => (List.mem_cons.mp (I.stkSub p.1 hm)).elim P1.2.2.1 P1.2.2.2.1, P1.2.2.2.2⟩
theorem HotB.at {X : Cx} {pins : List (Addr × Obj)} {σ : L2.St} {H : Hp} {s : Shared} (c : HotB X) (I : Inv X pins σ H s) : ∃ x1, HotX.HotAt X.A x1 s.heap := by
  obtain ⟨p, ⟨hh, v1, e1, c1⟩, hp⟩ := c
  exact ⟨p.1, hh, p.2, v1, (hp _ _ _ _ I).get, e1, c1⟩
theorem HotB.blk {X : Cx} {pins : List (Addr × Obj)} {σ : L2.St} {H : Hp} {s : Shared} {scope : Scope} {ce : Env} {fp : List Addr} (c : HotB X) (I : Inv X pins σ H s)
    (hfp : ∀ b ∈ fp, ∀ (o : Obj) (vs : Array Value), s.heap.get? b = some o → o.data = .fields vs → vs[2]? ≠ some .none) : HotB (X.blk s H scope ce fp) := by
  obtain ⟨p, ⟨hd, vs, hv, h2⟩, pin⟩ := c
  have P := pin _ _ _ _ I
  have nex : p.1 ∉ fp := fun h => hfp p.1 h p.2 vs P.get hv h2
  refine ⟨p, ⟨hd, vs, hv, h2⟩, fun pins' σ' H' s' I' => ?_⟩
  exact ⟨I'.base.keep p.1 p.2 P.get P.free P.nofs nex, I'.base.free p.1 p.2 P.get P.free nex, P.nofs, P.nocell⟩
/-- an iterator's turns while an error is handled -/
structure TurnB (P : Program) (w : World) (K : PySem.W.Frag) (tg : Expr) (J : It) (fp : List Addr) (it : Addr) (tn : Nat → Heap → Prop) : Prop where
  mem : it ∈ fp
  obj : ∀ i h, tn i h → ∀ b ∈ fp, ∃ o, h.get? b = some o ∧ ∀ v, o.data ≠ .cell v
  apart : ∀ i h, tn i h → ∀ b ∈ fp, ∀ (o : Obj) (vs : Array Value), h.get? b = some o → o.data = .fields vs → vs[2]? ≠ some .none
  keep : ∀ i h h', tn i h → (∀ b ∈ fp, ∀ o, h.get? b = some o → h'.get? b = some o) → tn i h'
  item : ∀ (X : Cx), X.prog = P → X.w = w → X.K = K → ∀ (i : Nat) (pins : List (Addr × Obj)) (s : Shared) (σ : L2.St) (H : Hp) (E : Value → Shared → Prop), Inv X pins σ H s → (∀ b ∈ fp, FpOk X pins H b) → tn i s.heap → J.go i H →
    wpAny (model P w) X.A (pyNext (.ref it)) (fun r s1 => ∃ u, r = some u ∧
      wpAny (model P w) X.A (letOwnedTupleGo tg (.ref it) u) (fun _ s2 => ∃ x H', Inv X pins σ H' s2 ∧ RelV x u ∧ J.yld i H x H' ∧ tn (i + 1) s2.heap ∧ ∀ b ∈ fp, H' b = none) E s1) E s
  done : ∀ (X : Cx), X.prog = P → X.w = w → X.K = K → HotB X → ∀ (i : Nat) (pins : List (Addr × Obj)) (s : Shared) (σ : L2.St) (H : Hp) (E : Value → Shared → Prop), Inv X pins σ H s → (∀ b ∈ fp, FpOk X pins H b) → tn i s.heap → J.stop i H →
    wpAny (model P w) X.A (pyNext (.ref it)) (fun r s1 => r = none ∧ Inv X pins σ H s1) E s
  self : ∀ (A : Around) (i : Nat) (s : Shared) (Q : Value → Shared → Prop) (E : Value → Shared → Prop), tn i s.heap → Q (.ref it) s → wpAny (model P w) A (pyIter (.ref it)) Q E s
theorem turn_listB {P : Program} {w : World} {K : PySem.W.Frag} {tg : Expr} (a it : Addr) : TurnB P w K tg (Itl K a) [it] it (fun i h => h.IsListIter it a i) where
  mem := by simp
  obj := fun i h st b hb => by
    have e : b = it := by simpa using hb
    subst e
    obtain ⟨o, e, c, d⟩ := st
    exact ⟨o, e, fun v z => by rw [d] at z; cases z⟩
  apart := fun i h st b hb o vs e1 e2 e3 => by
    have e : b = it := by simpa using hb
    subst e
    obtain ⟨o', e, c, d⟩ := st
    rw [e] at e1
    cases e1
    rw [d] at e2
    cases e2
    cases e3
  keep := fun i h h' st k => st.at fun o e => k it (by simp) o e
  item := by
    intro X hP hw hK i pins s σ H E I hf st hg
    subst hP hw hK
    obtain ⟨xs, x, hq, hx⟩ := hg
    obtain ⟨its, rv, p, hz⟩ := I.list hq
    obtain ⟨u, hu, ru⟩ := rv.get hx
    obtain ⟨f0, f1, f2, f3, f4, f5⟩ := hf it (by simp)
    refine wpAny_pyNext_list_item st p.isList (x := u) (by simpa using hu) fun h' st' sb => ?_
    have I1 : Inv X pins σ H { s with heap := h' } := I.turned (t' := s.toks) (fun b o hb e => (sb.2 b hb).trans e) f0 f1 f3 f4 f5
    obtain ⟨o, e, c, d⟩ := id st'
    exact ⟨u, rfl, go_of (s := { s with heap := h' }) e c d (by decide) ⟨x, H, I1, ru, ⟨rfl, fun ys hy => by rw [I.list_inj hy hq]; exact hx⟩, st', fun b hb => (hf b hb).1⟩⟩
  done := by
    intro X hP hw hK hc i pins s σ H E I hf st hg
    subst hP hw hK
    obtain ⟨xs, hq, hx⟩ := hg
    obtain ⟨its, rv, p, hz⟩ := I.list hq
    obtain ⟨f0, f1, f2, f3, f4, f5⟩ := hf it (by simp)
    have hl := rv.length
    obtain ⟨x1, hot⟩ := hc.at I
    exact list_end_hot hot st p.isList (by simp; omega) fun h' eb => ⟨rfl, I.turned (t' := s.toks) (fun b o hb e => eb b o hb e) f0 f1 f3 f4 f5⟩
  self := fun _ _ _ _ _ st h => wpAny_pyIter_listiter st h
theorem turn_rangeB {P : Program} {w : World} {K : PySem.W.Frag} {tg : Expr} (it : Addr) (lo : Int) (n : Nat) : TurnB P w K tg (Itr lo n) [it] it (fun i h => IsRangeIter h it (lo + (i : Nat) * 1) ((n : Int) - (i : Nat)) 1) where
  mem := by simp
  obj := fun i h st b hb => by
    have e : b = it := by simpa using hb
    subst e
    exact ⟨_, st, fun v z => by
      have z' : Data.fields _ = Data.cell v := z
      cases z'⟩
  apart := fun i h st b hb o vs e1 e2 e3 => by
    have e : b = it := by simpa using hb
    subst e
    have e : h.get? b = _ := st
    rw [e1] at e
    cases e
    cases e2
    cases e3
  keep := fun i h h' st k => k it (by simp) _ st
  item := by
    intro X hP hw hK i pins s σ H E I hf st hg
    subst hP hw hK
    obtain ⟨f0, f1, f2, f3, f4, f5⟩ := hf it (by simp)
    have hlt : i < n := hg
    refine wpAny_pyNext_range_item st (by omega) fun h' st' sb => ?_
    have st2 : IsRangeIter h' it (lo + ((i + 1 : Nat) : Int) * 1) ((n : Int) - ((i + 1 : Nat) : Int)) 1 := by
      have e1 : lo + ((i : Nat) : Int) * 1 + 1 = lo + ((i + 1 : Nat) : Int) * 1 := by omega
      have e2 : (n : Int) - ((i : Nat) : Int) - 1 = (n : Int) - ((i + 1 : Nat) : Int) := by omega
      rw [← e1, ← e2]
      exact st'
    have I1 : Inv X pins σ H { s with heap := h', toks := s.toks + 1 } := I.turned (fun b o hb e => (sb.2 b hb).trans e) f0 f1 f3 f4 f5
    refine ⟨_, rfl, go_of (s := { s with heap := h', toks := s.toks + 1 }) (n := "range_iterator") st2 rfl rfl (by decide) ⟨.int (lo + i), H, I1, ⟨s.toks, ?_⟩, ⟨rfl, rfl⟩, st2, fun b hb => (hf b hb).1⟩⟩
    rw [Int.mul_one]
  done := by
    intro X hP hw hK hc i pins s σ H E I hf st hg
    subst hP hw hK
    obtain ⟨f0, f1, f2, f3, f4, f5⟩ := hf it (by simp)
    obtain ⟨x1, hot⟩ := hc.at I
    exact HotX.pyNext_range_end_hot hot st (by have : n ≤ i := hg; omega) fun h' eb => ⟨rfl, I.turned (t' := s.toks) (fun b o _ e => eb b o e) f0 f1 f3 f4 f5⟩
  self := fun _ _ _ _ _ st h => wpAny_pyIter_rangeiter st h
def PIEB (X : Cx) (pins : List (Addr × Obj)) (σ : L2.St) (tg : Expr) (R : It → Hp → Prop) (itv : Value) (s2 : Shared) : Prop :=
  ∃ (it : Addr) (fp : List Addr) (tn : Nat → Heap → Prop) (J : It) (H' : Hp), itv = .ref it ∧ Inv X pins σ H' s2 ∧ TurnB X.prog X.w X.K tg J fp it tn ∧ tn 0 s2.heap ∧ (∀ b ∈ fp, FpOk X pins H' b) ∧ R J H'
structure PIB (X : Cx) (tg iter : Expr) (wi : TI) : Prop where
  run : ∀ (pins : List (Addr × Obj)) (s : Shared) (σ : L2.St) (H : Hp) (R : It → Hp → Prop), Inv X pins σ H s → wi σ H R →
    wpAny (model X.prog X.w) X.A (eval iter X.env) (fun v s1 => wpAny (model X.prog X.w) X.A (pyIter v) (PIEB X pins σ tg R) X.xe s1) X.xe s
section
variable {X : Cx} {tg : Expr}
theorem pi_listB {l : Expr} {tl : TE} {K : PySem.W.Frag} (hK : X.K = K) (hl : PE X l tl) : PIB X tg l (iList K tl) := by
  subst hK
  refine ⟨fun pins s σ H R I h => ?_⟩
  refine thn (hl.run pins s σ H _ I h) fun v s1 ⟨x, H1, I1, r1, q1⟩ => ?_
  obtain ⟨a, e, ⟨xs, hq⟩, q⟩ := q1
  subst e
  cases r1
  obtain ⟨its, rv, p, hz⟩ := I1.list hq
  refine wpAny_pyIter_list p.isList ?_
  refine ⟨s1.heap.objs.size, [s1.heap.objs.size], _, _, H1, rfl, I1.kept (t' := s1.toks) fun b o e => Heap.get?_push_of_some _ e, turn_listB a _, ⟨_, Heap.get?_push_size _ rfl, rfl, rfl⟩, fun b hb => ?_, q⟩
  have e : b = s1.heap.objs.size := by simpa using hb
  subst e
  exact I1.fpOk (Nat.le_refl _) (I1.hok.fresh (Nat.le_refl _))
theorem range_itB {pins : List (Addr × Obj)} {σ : L2.St} {H : Hp} {s : Shared} {R : It → Hp → Prop} {E : Value → Shared → Prop} {lo hi : Int} {t u v : Tok} {tk : Nat} (I : Inv X pins σ H s) (h1 : -(2 ^ 62) ≤ lo) (h2 : lo < 2 ^ 62) (h3 : -(2 ^ 62) ≤ hi) (h4 : hi < 2 ^ 62)
    (q : R (Itr lo (hi - lo).toNat) H) : wpAny (model X.prog X.w) X.A (pyIter (.ref s.heap.objs.size)) (PIEB X pins σ tg R) E { s with heap := s.heap.push { cls := .type "range", data := .fields #[.int lo t, .int hi u, .int 1 v] }, toks := tk } := by
  refine wpAny_pyIter_range (IsRange.new ..) (small_one h1 h2 h3 h4) ?_
  have I1 : Inv X pins σ H { s with heap := s.heap.push { cls := .type "range", data := .fields #[.int lo t, .int hi u, .int 1 v] }, toks := tk } := I.kept fun b o e => Heap.get?_push_of_some _ e
  refine ⟨(s.heap.push { cls := .type "range", data := .fields #[.int lo t, .int hi u, .int 1 v] }).objs.size, [(s.heap.push { cls := .type "range", data := .fields #[.int lo t, .int hi u, .int 1 v] }).objs.size], _, _, H, rfl,
    I1.kept (t' := tk) fun b o e => Heap.get?_push_of_some _ e, turn_rangeB _ lo (hi - lo).toNat, ?_, fun b hb => ?_, q⟩
  · have e1 : lo + ((0 : Nat) : Int) * 1 = lo := by simp
    have e2 : (((hi - lo).toNat : Nat) : Int) - ((0 : Nat) : Int) = Builtin.Range.rangeSize lo hi 1 := by rw [rangeSize_one]; split <;> omega
    show IsRangeIter _ _ (lo + ((0 : Nat) : Int) * 1) ((((hi - lo).toNat : Nat) : Int) - ((0 : Nat) : Int)) 1
    rw [e1, e2]
    exact Heap.get?_push_size _ rfl
  · have e : b = (s.heap.push { cls := .type "range", data := .fields #[.int lo t, .int hi u, .int 1 v] }).objs.size := by simpa using hb
    subst e
    exact I1.fpOk (Nat.le_refl _) (I1.hok.fresh (Nat.le_refl _))
theorem pi_range1B {a : Expr} {ta : TA} {p pos : Pos} (hg : Gl X "range") (hm : X.mg "range" = none) (ha : PA X [a] ta) (hs : starEach [a] X.env = [(false, eval a X.env)] := by rfl) : PIB X tg (.Call (.Name "range" p) [a] [] pos) (iRng1 ta) := by
  refine ⟨fun pins s σ H R I h => ?_⟩
  refine Call_ (ld_blt I hg hm boot_range (PyProof.Rows.callWith_type1 (thn (ha.run pos pins s σ H _ I h) fun us s1 ⟨vs, H1, I1, r1, q1⟩ => ?_) hs rfl))
  obtain ⟨j, e, q1, q2, q⟩ := q1
  subst e
  cases r1 with
  | cons r rr =>
    cases rr
    obtain ⟨t, rfl⟩ := r
    exact call_range_1 (range_itB I1 (by omega) (by omega) q1 q2 (by simpa using q))
theorem pi_range2B {a b : Expr} {ta : TA} {p pos : Pos} (hg : Gl X "range") (hm : X.mg "range" = none) (ha : PA X [a, b] ta) (hs : starEach [a, b] X.env = [(false, eval a X.env), (false, eval b X.env)] := by rfl) (hs2 : starEach [b] X.env = [(false, eval b X.env)] := by rfl) :
    PIB X tg (.Call (.Name "range" p) [a, b] [] pos) (iRng2 ta) := by
  refine ⟨fun pins s σ H R I h => ?_⟩
  refine Call_ (ld_blt I hg hm boot_range (PyProof.Rows.callWith_type1 (thn (ha.run pos pins s σ H _ I h) fun us s1 ⟨vs, H1, I1, r1, q1⟩ => ?_) (by rw [hs, hs2]) (by rw [hs2]; rfl)))
  obtain ⟨i, j, e, ⟨q1, q2, q3, q4⟩, q⟩ := q1
  subst e
  cases r1 with
  | cons r rr =>
    cases rr with
    | cons r' rr =>
      cases rr
      obtain ⟨t, rfl⟩ := r
      obtain ⟨t', rfl⟩ := r'
      exact call_range_2 (range_itB I1 q1 q2 q3 q4 q)

theorem ps_forB {iter : Expr} {body : List Stmt} {wi : TI} {g : TG} {tb : TS} {pos : Pos} (hp : PassesOwn (model X.prog X.w) X.A X.env X.xe) (hc : HotB X) (hi : PIB X tg iter wi) (hg : PG X tg g) (hb : PSs X body tb)
    (hs : ∀ x, foldedSetIterable iter X.env x = pure x := by intro _; rfl) : PS X (.For tg iter body [] pos) (tFor wi g tb) := by
  refine ⟨fun pins s σ H D I h => ?_⟩
  refine wpAny_For (thn (hi.run pins s σ H _ I h) fun v s1 h1 => thn h1 fun itv s2 h2 => ?_) hs
  obtain ⟨it, fp, tn, J, H2, e, I2, T, st2, f2, W, ⟨m0, w0⟩, turn⟩ := h2
  subst e
  -- what stays true of the iterator's objects through the loop
  have stat : ∀ {H' : Hp}, (∀ b ∈ fp, H' b = none) → ∀ b ∈ fp, FpOk X pins H' b := fun hn b hb => ⟨hn b hb, (f2 b hb).2⟩
  refine codeAny_forLoop_any (fun n s' => ∃ i σ' H', Inv X pins σ' H' s' ∧ tn i s'.heap ∧ (∀ b ∈ fp, H' b = none) ∧ W i n σ' H') ?_ m0 ⟨0, σ, H2, I2, st2, fun b hb => (f2 b hb).1, w0⟩
  rintro n s3 ⟨i, σ3, H3, I3, st3, fr3, w3⟩
  rcases turn i n σ3 H3 w3 with ⟨stop, qn⟩ | ⟨go, N, hN, step⟩
  · refine wpAny_passesOwn hp (thn (T.done X rfl rfl rfl hc i pins s3 σ3 H3 X.xe I3 (stat fr3) st3 stop) fun r s4 ⟨hr, I4⟩ => ?_)
    subst hr
    exact wpAny_execs_nil ⟨σ3, H3, I4, qn⟩
  · refine wpAny_passesOwn hp (thn (T.item X rfl rfl rfl i pins s3 σ3 H3 X.xe I3 (stat fr3) st3 go) fun r s4 ⟨u, hr, h4⟩ => ?_)
    subst hr
    refine wpAny_passesOwn hp (thn h4 fun _ s5 ⟨x, H5, I5, r5, y5, st5, fr5⟩ => ?_)
    have I5' := I5.pinned (stat fr5) (T.obj _ _ st5)
    refine wpAny_passesOwn hp (thn (hg.run _ s5 σ3 H5 x u _ I5' r5 (step x H5 y5)) fun _ s6 ⟨σ6, H6, I6, q6⟩ => ?_)
    refine wpAny_passesOwn hp (thn (hb.run _ s6 σ6 H6 _ I6 q6) fun f s7 q7 => ?_)
    have again : ∀ {σ7 : L2.St} {H7 : Hp}, Inv X (pins ++ pinsAt fp s5.heap) σ7 H7 s7 → N σ7 H7 → ∃ m, m < n ∧ ∃ i σ' H', Inv X pins σ' H' s7 ∧ tn i s7.heap ∧ (∀ b ∈ fp, H' b = none) ∧ W i m σ' H' := fun {σ7 H7} I7 n7 => by
      obtain ⟨m', hm, w7⟩ := hN σ7 H7 n7
      refine ⟨m', hm, i + 1, σ7, H7, I7.unpinned, T.keep _ _ _ st5 fun b hb o e => (I7.pin (b, o) (List.mem_append_right _ (List.mem_append_right _ (mem_pinsAt hb e)))).1, fun b hb => ?_, w7⟩
      obtain ⟨o, e, d⟩ := T.obj _ _ st5 b hb
      exact (I7.pin (b, o) (List.mem_append_right _ (List.mem_append_right _ (mem_pinsAt hb e)))).2.1
    cases f with
    | next => obtain ⟨σ7, H7, I7, n7⟩ := q7; exact again I7 n7
    | cont => obtain ⟨σ7, H7, I7, n7⟩ := q7; exact again I7 n7
    | brk => obtain ⟨σ7, H7, I7, q7⟩ := q7; exact ⟨σ7, H7, I7.unpinned, q7⟩
    | ret v => obtain ⟨x7, σ7, H7, I7, r7, q7⟩ := q7; exact ⟨x7, σ7, H7, I7.unpinned, r7, q7⟩
theorem lc_coreB {pins : List (Addr × Obj)} {s : Shared} {σ : L2.St} {H : Hp} {Q : VK} {elt tg iter : Expr} {ifs : List Expr} {scope : Scope} {own : List (Str × Nat)} {pos pos' : Pos} {wi : TI} {g : TG} {tt : TT} {te : TE} {use : Option (Value → Sem Unit)} {Qf : Value → Shared → Prop}
    (hc : HotB X) (hN : X.N.Nodup) (I : Inv X pins σ H s) (hi : PIB X tg iter wi) (ok : BlkOk X.N X.env.scope scope own)
    (hg : ∀ (s : Shared) (H : Hp) (C : Addr) (cl : List (Str × Addr)) (fp : List Addr), PG (X.blk s H scope (compEnvC scope cl C X.env) fp) tg g) (ht : ∀ (s : Shared) (H : Hp) (C : Addr) (cl : List (Str × Addr)) (fp : List Addr), PTs (X.blk s H scope (compEnvC scope cl C X.env) fp) ifs tt)
    (he : ∀ (s : Shared) (H : Hp) (C : Addr) (cl : List (Str × Addr)) (fp : List Addr), HotB (X.blk s H scope (compEnvC scope cl C X.env) fp) → PE (X.blk s H scope (compEnvC scope cl C X.env) fp) elt te) (hs : ∀ x, foldedSetIterable iter X.env x = pure x)
    (h : tLc wi g tt te (own.map (·.2)) σ H Q)
    (hRR : ∀ D C s' m H', Inv X pins σ H' s' → Q (.ref D) H' → s'.heap.Ns C m → FpOk X pins H' C → compPost (model X.prog X.w) X.A X.xe use Qf (.ref D) C (.ok .next) s') :
    wpAny (model X.prog X.w) X.A (comprehension (.ListComp elt [⟨tg, iter, ifs, 0⟩] scope pos) scope X.env pos' (newList []) false (eval iter X.env) use) Qf X.xe s := by
  have hfree : ∀ y ∈ scope.names, y.2 = .free → ∃ c, X.env.cells.lookup y.1 = some c := fun y hy e => by
    rcases ok.free y hy e with k | k
    · exact I.ok.has _ (.inl k)
    · exact I.ok.has _ (.inr k)
  refine wpAny_comprehension_free (use := use) rfl hs (closure_ok hfree) ok.kind (fun y hy e => by rw [ok.uniq y hy, e])
    (thn (hi.run pins s σ H _ I h) fun xv s1 hx => thn hx fun itv s2 h2 => ?_)
  obtain ⟨it, fp, tn, J, H2, e, I2, T, st2, f2, q⟩ := h2
  subst e
  refine wpAny_newObj_type (newEnv_comp ?_) (by show 0 ≤ sizeLine; decide)
  generalize hD : s2.heap.objs.size = D
  have hDn : H2 D = none := I2.hok.fresh (Nat.le_of_eq hD)
  obtain ⟨W, ⟨m0, w0⟩, turn⟩ := q D hDn
  -- the new list
  generalize hs3 : ({ s2 with heap := s2.heap.push { cls := .type "list", data := .seq ([] : List Value).toArray } } : Shared) = s3
  have I3 : Inv X pins σ (upd H2 D (.lst [])) s3 := by
    rw [← hs3]
    refine I2.laid (t' := s2.toks) (fun b o e => Heap.get?_push_of_some _ e) (Nat.le_of_eq hD) ⟨Nat.zero_le _, [], 0, .nil, ?_⟩
    rw [← hD]
    exact Heap.get?_push_size _ rfl
  have h3 : s3.heap = s2.heap.push { cls := .type "list", data := .seq ([] : List Value).toArray } := by rw [← hs3]
  have sz : ∀ b ∈ fp, b < s2.heap.objs.size := fun b hb => by
    obtain ⟨o, e, _⟩ := T.obj _ _ st2 b hb
    exact Heap.lt_size e
  have f3 : ∀ b ∈ fp, FpOk X pins (upd H2 D (.lst [])) b ∧ b < s3.heap.objs.size := fun b hb => by
    have hlt := sz b hb
    refine ⟨⟨?_, (f2 b hb).2⟩, by rw [h3, Heap.size_push]; exact Nat.lt_succ_of_lt hlt⟩
    rw [upd_ne (by rw [← hD]; exact Nat.ne_of_lt hlt)]
    exact (f2 b hb).1
  have st3 : tn 0 s3.heap := T.keep _ _ _ st2 fun b _ o e => by rw [h3]; exact Heap.get?_push_of_some _ e
  have I4 := block_start I3 ok hN f3
  have hotb : ∀ ce, HotB (X.blk s3 (upd H2 D (.lst [])) scope ce fp) := fun ce => hc.blk I3 fun b hb o vs e1 e2 => T.apart _ _ st3 b hb o vs e1 e2
  have pg := hg s3 (upd H2 D (.lst [])) s3.heap.objs.size (cellsFrom (s3.heap.objs.size + 1) scope.names (cloFrom X.env.cells scope.names [])) fp
  have pt := ht s3 (upd H2 D (.lst [])) s3.heap.objs.size (cellsFrom (s3.heap.objs.size + 1) scope.names (cloFrom X.env.cells scope.names [])) fp
  have pe := he s3 (upd H2 D (.lst [])) s3.heap.objs.size (cellsFrom (s3.heap.objs.size + 1) scope.names (cloFrom X.env.cells scope.names [])) fp (hotb _)
  replace hotb := hotb (compEnvC scope (cellsFrom (s3.heap.objs.size + 1) scope.names (cloFrom X.env.cells scope.names [])) s3.heap.objs.size X.env)
  show codeAny _ _ (.compStart (.ListComp elt [⟨tg, iter, ifs, 0⟩] scope pos) 0 (.ref it) (.ref D) (compEnvC scope (cellsFrom (s3.heap.objs.size + 1) scope.names (cloFrom X.env.cells scope.names [])) s3.heap.objs.size X.env)) (compPost (model X.prog X.w) X.A X.xe use Qf (.ref D) s3.heap.objs.size) { s3 with heap := pushCells (s3.heap.push { cls := .type "dict", data := .dict #[] }) scope.names }
  have nfp : ∀ b ∈ fp, (upd H2 D (.lst [])) b = none := fun b hb => (f3 b hb).1.1
  generalize hce : compEnvC scope (cellsFrom (s3.heap.objs.size + 1) scope.names (cloFrom X.env.cells scope.names [])) s3.heap.objs.size X.env = ce at I4 pg pt pe hotb ⊢
  have cL : ce.locals = s3.heap.objs.size := by subst hce; rfl
  generalize hH3 : upd H2 D (.lst []) = H3 at I3 I4 pg pt pe hotb w0 nfp f3
  generalize hs4 : ({ s3 with heap := pushCells (s3.heap.push { cls := .type "dict", data := .dict #[] }) scope.names } : Shared) = s4 at I4 ⊢
  have st4 : tn 0 s4.heap := T.keep _ _ _ st3 fun b _ o e => by rw [← hs4]; exact pushCells_keeps _ _ _ _ (Heap.get?_push_of_some _ e)
  have stat : ∀ {σ' : L2.St} {H' : Hp} {s' : Shared}, Inv (X.blk s3 H3 scope ce fp) [] σ' H' s' → (∀ b ∈ fp, H' b = none) → ∀ b ∈ fp, FpOk (X.blk s3 H3 scope ce fp) [] H' b := fun {σ' H' s'} I' hn b hb =>
    ⟨hn b hb, (I'.ok.exf b hb).1, I'.ok.exfs b hb, .inl hb, fun x c e => (I'.ok.exf b hb).2 x c e, fun p hp => absurd (show p ∈ ([] : List (Addr × Obj)) ++ [] from hp) (by simp)⟩
  have loop : codeAny (model X.prog X.w) X.A (.compLoop (.ListComp elt [⟨tg, iter, ifs, 0⟩] scope pos) 0 (.ref it) (.ref D) ce) (compPost (model X.prog X.w) X.A X.xe use Qf (.ref D) s3.heap.objs.size) s4 := by
    refine compLoop_any (fun n s' => ∃ i H', Inv (X.blk s3 H3 scope ce fp) [] (wipe σ (own.map (·.2))) H' s' ∧ tn i s'.heap ∧ (∀ b ∈ fp, H' b = none) ∧ W i n H') ?_ m0 ⟨0, H3, I4, st4, nfp, w0⟩
    rintro n s5 ⟨i, H5, I5, st5, n5, w5⟩
    rcases turn i n H5 w5 with ⟨stop, qq⟩ | ⟨go, Nx, hNx, step⟩
    · have td := T.done (X.blk s3 H3 scope ce fp) rfl rfl rfl hotb i [] s5 _ H5 (fun _ _ => False) I5 (stat I5 n5) st5 stop
      refine thnF td fun r s6 ⟨hr, I6⟩ => ?_
      subst hr
      -- back in the def's context
      have I7 : Inv X pins σ H5 s6 := I3.call' (ch := fp) I6.os I6.base I6.hok I6.bare fun b hb => ⟨(f3 b hb).1.2.2.2.1, (f3 b hb).1.2.1, (f3 b hb).1.2.2.2.2.1, (f3 b hb).1.2.2.2.2.2⟩
      have nC : H5 s3.heap.objs.size = none := by
        have z : H5 ce.locals = none := I6.free
        rw [cL] at z
        exact z
      obtain ⟨m, hn, _⟩ := I6.loc
      have hn : s6.heap.Ns ce.locals m := hn
      rw [cL] at hn
      exact hRR D s3.heap.objs.size s6 m H5 I7 qq hn (I3.fpOk (Nat.le_refl _) nC)
    · have ti := T.item (X.blk s3 H3 scope ce fp) rfl rfl rfl i [] s5 _ H5 (fun _ _ => False) I5 (stat I5 n5) st5 go
      refine thnF ti fun r s6 ⟨u, hr, h6⟩ => ?_
      subst hr
      refine thnF h6 fun _ s7 ⟨x, H7, I7, r7, y7, st7, n7⟩ => ?_
      have I7' := I7.pinned (stat I7 n7) (T.obj _ _ st7)
      refine thnF (pg.run _ s7 _ H7 x u _ I7' r7 (step x H7 y7)) fun _ s8 ⟨σ8, H8, I8, hw8, q8⟩ => ?_
      refine thnF (pt.run _ s8 σ8 H8 _ I8 q8) fun b s9 ⟨H9, I9, q9⟩ => ?_
      -- the turn's end
      have fin : ∀ {s' : Shared} {H' : Hp}, Inv (X.blk s3 H3 scope ce fp) ([] ++ pinsAt fp s7.heap) σ8 H' s' → Nx H' → ∃ m, m < n ∧ ∃ i H', Inv (X.blk s3 H3 scope ce fp) [] (wipe σ (own.map (·.2))) H' s' ∧ tn i s'.heap ∧ (∀ b ∈ fp, H' b = none) ∧ W i m H' := fun {s' H'} I' nx => by
        obtain ⟨m', hm, w'⟩ := hNx H' nx
        have pin' : ∀ b ∈ fp, ∀ o, s7.heap.get? b = some o → s'.heap.get? b = some o ∧ H' b = none := fun b hb o e =>
          let z := I'.pin (b, o) (List.mem_append_right _ (List.mem_append_right _ (mem_pinsAt hb e)))
          ⟨z.1, z.2.1⟩
        have hl : (wipe σ (own.map (·.2))).length = σ8.length := by rw [← hw8, wipe_length]
        refine ⟨m', hm, i + 1, H', (I'.unpinned (pins := [])).weak hl (fun j v e => ?_), T.keep _ _ _ st7 fun b hb o e => (pin' b hb o e).1, fun b hb => ?_, w'⟩
        · rw [← hw8] at e
          exact (wipe_some e).1
        · obtain ⟨o, e, _⟩ := T.obj _ _ st7 b hb
          exact (pin' b hb o e).2
      cases b with
      | false =>
        simp only [Bool.false_eq_true, if_false] at q9 ⊢
        exact fin I9 q9
      | true =>
        simp only [if_true] at q9 ⊢
        refine thnF (pe.run _ s9 σ8 H9 _ I9 q9) fun z s10 ⟨yv, H10, I10, r10, acc, hD10, hz10, nx⟩ => ?_
        exact app_ok (X := X.blk s3 H3 scope ce fp) I10 hD10 hz10 r10 fun s11 I11 => fin I11 nx
  exact codeAny_compStart_list loop (T.self X.A 0 _ _ _ st4 loop)
theorem pe_lcB {elt tg iter : Expr} {ifs : List Expr} {scope : Scope} {own : List (Str × Nat)} {pos : Pos} {wi : TI} {g : TG} {tt : TT} {te : TE} (hc : HotB X) (hN : X.N.Nodup) (hi : PIB X tg iter wi) (ok : BlkOk X.N X.env.scope scope own)
    (hg : ∀ (s : Shared) (H : Hp) (C : Addr) (cl : List (Str × Addr)) (fp : List Addr), PG (X.blk s H scope (compEnvC scope cl C X.env) fp) tg g) (ht : ∀ (s : Shared) (H : Hp) (C : Addr) (cl : List (Str × Addr)) (fp : List Addr), PTs (X.blk s H scope (compEnvC scope cl C X.env) fp) ifs tt)
    (he : ∀ (s : Shared) (H : Hp) (C : Addr) (cl : List (Str × Addr)) (fp : List Addr), HotB (X.blk s H scope (compEnvC scope cl C X.env) fp) → PE (X.blk s H scope (compEnvC scope cl C X.env) fp) elt te) (hs : ∀ x, foldedSetIterable iter X.env x = pure x := by intro _; rfl) :
    PE X (.ListComp elt [⟨tg, iter, ifs, 0⟩] scope pos) (tLc wi g tt te (own.map (·.2))) := by
  refine ⟨fun pins s σ H Q I h => ?_⟩
  rw [eval_ListComp]
  refine lc_coreB hc hN I hi ok hg ht he hs h fun D C s' m H' I' q hn f => ⟨m, hn, fun h'' sb => ?_⟩
  obtain ⟨f0, f1, f2, f3, f4, f5⟩ := f
  exact ⟨.ref D, H', I'.turned (t' := s'.toks) (fun b o hb e => (sb.2 b hb).trans e) f0 f1 f3 f4 f5, rfl, q⟩
end
end W26

end

/-! ## WHot2 -/
section
set_option Elab.async false
set_option linter.all false
set_option maxRecDepth 100000
set_option maxHeartbeats 8000000
/-! The law's numbers and rank while an error is handled: the same walks, made by a program from the others. -/
theorem L2H.RoomH.units {k : Nat} {A : PySem.Around} (r : L2H.RoomH k A) : A.units + 64 < PySem.cLine := by
  have := r.un
  omega
namespace W26
section
open PySem PySem.Spec PyProof.Rows L2 M26
variable {X : Cx}
theorem ps_setLcB {i : Nat} {y : Str} {py : Pos} {elt tg iter : Expr} {ifs : List Expr} {scope : Scope} {own : List (Str × Nat)} {pos spos : Pos} {wi : TI} {g : TG} {tt : TT} {te : TE} (hc : HotB X) (hN : X.N.Nodup) (hy : X.N[i]? = some y) (hyl : X.env.scope.names.lookup y = some .local)
    (hsw : swapsWith (.ListComp elt [⟨tg, iter, ifs, 0⟩] scope pos) (some (.Name y py)) spos.line X.env = pure true) (hi : PIB X tg iter wi) (ok : BlkOk X.N X.env.scope scope own)
    (hg : ∀ (s : Shared) (H : Hp) (C : Addr) (cl : List (Str × Addr)) (fp : List Addr), PG (X.blk s H scope (compEnvC scope cl C X.env) fp) tg g) (ht : ∀ (s : Shared) (H : Hp) (C : Addr) (cl : List (Str × Addr)) (fp : List Addr), PTs (X.blk s H scope (compEnvC scope cl C X.env) fp) ifs tt)
    (he : ∀ (s : Shared) (H : Hp) (C : Addr) (cl : List (Str × Addr)) (fp : List Addr), HotB (X.blk s H scope (compEnvC scope cl C X.env) fp) → PE (X.blk s H scope (compEnvC scope cl C X.env) fp) elt te) (hs : ∀ x, foldedSetIterable iter X.env x = pure x := by intro _; rfl) :
    PS X (.Assign [.Name y py] (.ListComp elt [⟨tg, iter, ifs, 0⟩] scope pos) spos) (tAsg (tLc wi g tt te (own.map (·.2))) (gName i)) := by
  refine ⟨fun pins s σ H D I h => ?_⟩
  rw [exec_Assign_Name_used _ _ _ _ hsw]
  refine wpAny_bind (wpAny_standAt (wpAny_bind ?_))
  show wpAny _ X.A (do let _ ← comprehension (.ListComp elt [⟨tg, iter, ifs, 0⟩] scope pos) scope X.env (firstIterPos [⟨tg, iter, ifs, 0⟩] pos) (newList []) false (eval iter X.env) (some (assign (.Name y py) X.env))) _ _ s
  have h : tLc wi g tt te (own.map (·.2)) σ H (fun x H1 => gName i x σ H1 D.nx) := h
  refine wpAny_bind (thn (lc_coreB (Qf := fun _ s' => SP X pins D .next s') hc hN I hi ok hg ht he hs h fun L C s' m H' I' q hn f => ?_) fun _ s' hq => wpAny_pure (wpAny_pure hq))
  show wpAny _ _ (assign (.Name y py) X.env (.ref L)) _ _ _
  refine wpAny_assign_Name (store_ok2 (v := V.ref L) I' hN hy (.inl hyl) rfl (fun s2 I2 ⟨a, sb, ha⟩ => ?_) (.inr hyl))
  obtain ⟨f0, f1, f2, f3, f4, f5⟩ := f
  have haC : C ≠ a := by
    rcases ha with z | z
    · rw [z]; exact f1
    · exact fun e => f4 y a z e.symm
  refine ⟨m, hn.sameBut sb haC, fun h3 sb3 => ?_⟩
  exact ⟨_, H', I2.turned (t' := s2.toks) (fun b o hb e => (sb3.2 b hb).trans e) f0 f1 f3 f4 f5, q⟩
end
open PySem L2 M26
open Rp
open L2H (Hot1 PinOk HotC RoomH FnH cxH fn_ofH)
section
variable {P : Program} {w : World} {K : PySem.W.Frag} {mg : Str → Option Value} {base : Heap}
def DfnH (P : Program) (w : World) (K : PySem.W.Frag) (mg : Str → Option Value) (base : Heap) (k : Nat) (x : Str) (ps : List Str) (sp : Sp) : Prop :=
  ∃ (f : Addr) (fd : FuncData), mg x = some (.ref f) ∧ PySem.W.keepIn K (.ref f) = true ∧ Binds K fd ps [] ∧ FnH P w K mg base CX0 k f fd ps sp
theorem okH {x qual : Str} {st : Stmt} {f : Addr} {fd : FuncData} {N ps : List Str} {k : Nat} {sp : Sp} (F : Fun K x qual st f fd) (S : FnScope N ps (defScope st)) (len : ∀ vs H Q E, sp vs H Q E → vs.length = ps.length)
    (hbody : ∀ (cdv : Value) (A : Around) (outer : List Env) (s : Shared) (H : Hp) (vs : List V) (Q : VK) (E : XK) (p : Addr × Obj), RoomH k (A.deeper (PyProof.Rows.envOfC qual (defScope st) s.heap.objs.size f cdv)) → HotB (cxH CX0 P w K mg base N qual (defScope st) f cdv A outer s H E p).nox → sp vs H Q E →
      ∃ t, PSs (cxH CX0 P w K mg base N qual (defScope st) f cdv A outer s H E p).nox (defBody st) t ∧ t { nx := fun _ H' => Q .non H', rt := Q } (start N vs) H) : FnH P w K mg base CX0 (k + 1) f fd ps sp := by
  obtain ⟨oc, od, kV, doc, pm, an, cdv, ct, osl, rfl, lk, hcd⟩ := F.ex
  refine fn_ofH lk hcd S len fun A outer s H vs Q E p hot hr hsp => ?_
  obtain ⟨t, h, q⟩ := hbody cdv A outer s H vs Q E p hr (HotB.of ⟨p, hot, List.mem_cons_self⟩) hsp
  exact ⟨t, h.nox, q⟩
theorem pe_cdB {X : Cx} {k : Nat} {ps : List Str} {sp : Sp} {x : Str} {p pos : Pos} {e : Expr} {es : List Expr} {t : TA} (D : DfnH X.prog X.w X.K X.mg X.base k x ps sp) (hr : RoomH k X.A) (hc : HotB X) (ha : PA X (e :: es) t) (hg : Gl X x := by rfl) (hdb : (x == ("__debug__" : Str)) = false := by decide)
    (he : starEach (e :: es) X.env = (false, eval e X.env) :: starEach es X.env := by rfl) (hpl : (backTo pos (starEach es X.env)).any (·.1) = false := by rfl) :
    PE X (.Call (.Name x p) (e :: es) [] pos) (tCall sp [] E0 t) := by
  obtain ⟨f, fd, hm, hk, hb, F⟩ := D
  refine ⟨fun pins s σ H Q I h => ?_⟩
  refine PySem.wpAny_Call_Name_kw (ld_glob I hg hm ?_ hdb)
  refine PySem.W.callWith_K (h₀ := X.base) I.ok.mod.kin hk (thn (ha.run pos pins s σ H _ I h) fun us s1 ⟨vs, H1, I1, r, q⟩ => ⟨I1.kIn, ?_⟩) he hpl
  replace q : sp (vs ++ []) H1 Q E0 := q
  rw [List.append_nil] at q
  have hl : us.length = ps.length := by rw [← r.length]; exact F.len _ _ _ _ q
  have b := hb s1 us I1.kIn (by rw [List.append_nil]; exact hl)
  rw [List.append_nil] at b
  obtain ⟨p0, hot, pin⟩ := hc
  refine wpAny_call (codeAny_mono (F.run X.A X.stack s1 H1 ⟨us, []⟩ us vs Q E0 p0 hr hot (pin _ _ _ _ I1) I1.env0 b r q) fun r s' hq => ?_)
  cases r with
  | error e => exact False.elim hq
  | ok fl =>
    cases fl with
    | ret u => exact I1.after hq
    | next => exact False.elim hq
    | brk => exact False.elim hq
    | cont => exact False.elim hq
/-- the law's numbers, while an error is handled -/
structure LKitH (P : Program) (w : World) (K : PySem.W.Frag) (mg : Str → Option Value) (base : Heap) (α : Type) [Rp α] : Prop where
  some_ : DfnH P w K mg base 1 "_law_some" ["_law_p", "_law_number_here"] (spSome α)
  plus : DfnH P w K mg base 3 "_law_plus" ["_law_p", "_law_one", "_law_other"] (spL2 α (fun x y => x + y) fun _ _ => True)
  times : DfnH P w K mg base 3 "_law_times" ["_law_p", "_law_one", "_law_other"] (spL2 α (fun x y => x * y) fun _ _ => True)
  minus : DfnH P w K mg base 4 "_law_minus" ["_law_p", "_law_one"] (spL1 α fun x => -1 * x)
  over : DfnH P w K mg base 3 "_law_over" ["_law_p", "_law_one", "_law_other"] (spL2 α (fun x y => x * Fl.inv y) fun _ y => y ≠ 0)
  nought : DfnH P w K mg base 2 "_law_nought" ["_law_p", "_law_thing"] (spNought α)
theorem okH_l_gcd {f : Addr} {fd : FuncData} (F : Fun K "_law_gcd" "_law_gcd" s_l_gcd f fd) (T : Blt mg) : FnH P w K mg base CX0 1 f fd ["_law_one", "_law_other"] spGcd := by
  refine okH F sc_l_gcd (fun vs H Q E h => ?_) (fun cdv A outer s H vs Q E p0 hr hotb h => ?_)
  · obtain ⟨a, b, rfl, _⟩ := h
    rfl
  · obtain ⟨a, b, rfl, k⟩ := h
    refine ⟨_, (pss_cons (ps_set (i := 0) sc_l_gcd.nd rfl (by first | exact Or.inl rfl | exact Or.inr rfl) (pe_callB call_abs (by rfl) T.abs (by decide +kernel) (pa_cons (pv 0) pa_nil)))
      (pss_cons (ps_set (i := 1) sc_l_gcd.nd rfl (by first | exact Or.inl rfl | exact Or.inr rfl) (pe_callB call_abs (by rfl) T.abs (by decide +kernel) (pa_cons (pv 1) pa_nil)))
      (pss_cons (ps_while PassesOwn.never (pt_cmpR op_gt (pv 1) pe_int (nomark _))
      (pss_cons (ps_set (i := 2) sc_l_gcd.nd rfl (by first | exact Or.inl rfl | exact Or.inr rfl) (pe_op op_modN (pe_callTy call_int1 (by rfl) T.int (by decide +kernel) (pa_cons (pv 0) pa_nil)) (pv 1)))
      (pss_cons (ps_set (i := 0) sc_l_gcd.nd rfl (by first | exact Or.inl rfl | exact Or.inr rfl) (pv 1))
      (pss_one (ps_set (i := 1) sc_l_gcd.nd rfl (by first | exact Or.inl rfl | exact Or.inr rfl) (pv 2))))))
      (pss_one (ps_ret (pv 0)))))), ?_⟩
    refine ⟨_, rfl, _, rfl, ?_⟩
    refine ⟨_, rfl, _, rfl, ?_⟩
    rw [abs_nat a, abs_nat b]
    refine wh (fun σ H' => H' = H ∧ ∃ (x y : Nat) (r : Option V), σ = [some (.int (x : Nat)), some (.int (y : Nat)), r] ∧ Nat.gcd x y = Int.gcd a b) (fun σ _ => sec 1 σ) ⟨rfl, a.natAbs, b.natAbs, none, rfl, rfl⟩ ?_ ?_
    · rintro σ H' ⟨rfl, x, y, r, rfl, hg⟩
      refine ⟨_, rfl, _, _, rfl, rfl, _, rfl, ?_⟩
      refine ite2 (fun c => ?_) (fun c => ?_)
      · have c : (0 : Int) < (y : Int) := of_decide_eq_true c
        refine ⟨_, rfl, .inl ⟨_, rfl, _, rfl, _, _, rfl, rfl, (by omega), ?_⟩⟩
        refine ⟨_, rfl, ?_⟩
        refine ⟨_, rfl, ?_⟩
        refine ⟨⟨rfl, y, x % y, some (.int ((x % y : Nat) : Nat)), ?_, by rw [gcd_turn, hg]⟩, ?_⟩
        · show [some (V.int (y : Nat)), some (V.int ((x : Int).fmod (y : Int))), some (V.int ((x : Int).fmod (y : Int)))] = _
          rw [mod_nat]
        · show ((x : Int).fmod (y : Int)).natAbs < y
          rw [mod_nat]
          exact Nat.mod_lt _ (by omega)
      · have c : ¬ (0 : Int) < (y : Int) := fun z => c (decide_eq_true z)
        have y0 : y = 0 := by omega
        subst y0
        rw [Nat.gcd_zero_right] at hg
        refine ⟨_, rfl, ?_⟩
        rw [hg]
        exact k
    · rintro σ H Q Q' f ⟨v, e, i, j, e1, e2, c, ec, q⟩
      exact ⟨v, e, i, j, e1, e2, c, ec, f _ _ q⟩
theorem okH_l_low {f : Addr} {fd : FuncData} (F : Fun K "_law_low" "_law_low" s_l_low f fd) (T : Blt mg)
    (D_l_gcd : DfnH P w K mg base 1 "_law_gcd" ["_law_one", "_law_other"] spGcd) : FnH P w K mg base CX0 2 f fd ["_law_top", "_law_bottom"] spLow := by
  refine okH F sc_l_low (fun vs H Q E h => ?_) (fun cdv A outer s H vs Q E p0 hr hotb h => ?_)
  · obtain ⟨a, b, rfl, _⟩ := h
    rfl
  · obtain ⟨a, b, rfl, hb, hl, k⟩ := h
    refine ⟨_, (pss_cons (ps_set (i := 2) sc_l_low.nd rfl (by first | exact Or.inl rfl | exact Or.inr rfl) (pe_cdB D_l_gcd (hr.mono (by decide)) hotb (pa_cons (pv 0) (pa_cons (pv 1) pa_nil))))
      (pss_cons (ps_if (pt_cmpR op_lt (pv 1) pe_int (nomark _))
      (pss_one (ps_set (i := 2) sc_l_low.nd rfl (by first | exact Or.inl rfl | exact Or.inr rfl) (pe_un un_neg (pv 2))))
      pss_nil)
      (pss_one (ps_ret (pe_tup (pa_cons (pe_op op_fdivX (pv 0) (pv 2)) (pa_cons (pe_op op_fdivX (pv 1) (pv 2)) pa_nil))))))), ?_⟩
    refine ⟨_, rfl, _, rfl, a, b, rfl, ?_⟩
    refine ⟨_, rfl, _, _, rfl, rfl, _, rfl, ?_⟩
    have fin : ∀ s : Int, s = (if b < 0 then -((Int.gcd a b : Nat) : Int) else ((Int.gcd a b : Nat) : Int)) → (tRet (tTup (tCons (tOp (rI (fun _ j => j ≠ 0 ∧ j.natAbs.log2 < 9000) fun i j => .int (i.fdiv j)) (tVar 0) (tVar 2)) (tCons (tOp (rI (fun _ j => j ≠ 0 ∧ j.natAbs.log2 < 9000) fun i j => .int (i.fdiv j)) (tVar 1) (tVar 2)) tNil)))) { nx := fun _ H' => Q .non H', rt := Q } [some (.int a), some (.int b), some (.int s)] H := by
      intro s hs
      obtain ⟨h1, h2, h3⟩ := low_num hb s hs
      have h4 := low_log hb hl hs
      refine ⟨_, rfl, _, rfl, _, _, rfl, rfl, ⟨h3, h4⟩, _, rfl, _, rfl, _, _, rfl, rfl, ⟨h3, h4⟩, (by show 2 ≤ sizeLine; decide), fun p hp => ?_⟩
      refine k _ _ (Same.new hp) ⟨p, rfl, ?_⟩
      rw [upd_same]
      show some (HO.tup [V.int (a.fdiv s), V.int (b.fdiv s)]) = _
      rw [h1, h2]
    refine ite2 (fun c => ?_) (fun c => ?_)
    · have c := of_decide_eq_true c
      refine ⟨_, rfl, _, rfl, ?_⟩
      exact fin _ (if_pos c).symm
    · have c : ¬ b < 0 := fun z => c (decide_eq_true z)
      exact fin _ (if_neg c).symm
section
variable {p : Nat} [PP : PrimeP p]
theorem okH_l_some_fin {f : Addr} {fd : FuncData} (F : Fun K "_law_some" "_law_some" s_l_some f fd) (T : Blt mg) : FnH P w K mg base CX0 1 f fd ["_law_p", "_law_number_here"] (spSome (Fin p)) := by
  refine okH F sc_l_some (fun vs H Q E h => ?_) (fun cdv A outer s H vs Q E p0 hr hotb h => ?_)
  · obtain ⟨n, rfl, _⟩ := h
    rfl
  · obtain ⟨n, rfl, hn, k⟩ := h
    refine ⟨_, (pss_cons (ps_if (pt_cmpR op_gt (pv 0) pe_int (nomark _))
      (pss_one (ps_ret (pe_op op_modN (pe_callTy call_int1 (by rfl) T.int (by decide +kernel) (pa_cons (pv 1) pa_nil)) (pv 0))))
      pss_nil)
      (pss_one (ps_ret (pe_tup (pa_cons (pv 1) (pa_cons pe_int pa_nil)))))), ?_⟩
    refine ⟨_, rfl, _, _, rfl, rfl, _, rfl, ?_⟩
    refine ite2 (fun _ => ?_) (fun z => absurd (decide_eq_true (p_pos (p := p))) z)
    refine ⟨_, rfl, .inl ⟨_, rfl, _, rfl, _, _, rfl, rfl, fin_pi (p := p), ?_⟩⟩
    refine k _ H (Same.refl H) ?_
    show V.int (n.fmod (p : Int)) = _
    rw [fin_num hn]
theorem okH_l_plus_fin {f : Addr} {fd : FuncData} (F : Fun K "_law_plus" "_law_plus" s_l_plus f fd) (T : Blt mg) (D_l_low : DfnH P w K mg base 2 "_law_low" ["_law_top", "_law_bottom"] spLow) :
    FnH P w K mg base CX0 3 f fd ["_law_p", "_law_one", "_law_other"] (spL2 (Fin p) (fun x y => x + y) fun _ _ => True) := by
  refine okH F sc_l_plus (fun vs H Q E h => ?_) (fun cdv A outer s H vs Q E p0 hr hotb h => ?_)
  · obtain ⟨v1, v2, x, y, rfl, _⟩ := h
    rfl
  · obtain ⟨v1, v2, x, y, rfl, r1, r2, _, _, _, k⟩ := h
    cases (show v1 = .int (x.val : Int) from r1)
    cases (show v2 = .int (y.val : Int) from r2)
    refine ⟨_, (pss_cons (ps_if (pt_cmpR op_gt (pv 0) pe_int (nomark _))
      (pss_one (ps_ret (pe_op op_modN (pe_callTy call_int1 (by rfl) T.int (by decide +kernel) (pa_cons (pe_op op_add (pv 1) (pv 2)) pa_nil)) (pv 0))))
      pss_nil)
      (pss_one (ps_ret (pe_cdB D_l_low (hr.mono (by decide)) hotb (pa_cons (pe_op op_add (pe_op op_mulW (pe_ix (ix_tupK (K := K) rfl) (pv 1) pe_int (fun _ _ => rfl)) (pe_ix (ix_tupK (K := K) rfl) (pv 2) pe_int (fun _ _ => rfl))) (pe_op op_mulW (pe_ix (ix_tupK (K := K) rfl) (pv 2) pe_int (fun _ _ => rfl)) (pe_ix (ix_tupK (K := K) rfl) (pv 1) pe_int (fun _ _ => rfl)))) (pa_cons (pe_op op_mulW (pe_ix (ix_tupK (K := K) rfl) (pv 1) pe_int (fun _ _ => rfl)) (pe_ix (ix_tupK (K := K) rfl) (pv 2) pe_int (fun _ _ => rfl))) pa_nil)))))), ?_⟩
    refine ⟨_, rfl, _, _, rfl, rfl, _, rfl, ?_⟩
    refine ite2 (fun _ => ?_) (fun z => absurd (decide_eq_true (p_pos (p := p))) z)
    refine ⟨_, rfl, _, rfl, _, _, rfl, rfl, .inl ⟨_, rfl, _, rfl, _, _, rfl, rfl, fin_pi (p := p), ?_⟩⟩
    refine k _ H (Same.refl H) ?_
    show V.int ((((x.val : Nat) : Int) + ((y.val : Nat) : Int)).fmod (p : Int)) = _
    rw [fin_add]
theorem okH_l_times_fin {f : Addr} {fd : FuncData} (F : Fun K "_law_times" "_law_times" s_l_times f fd) (T : Blt mg) (D_l_low : DfnH P w K mg base 2 "_law_low" ["_law_top", "_law_bottom"] spLow) :
    FnH P w K mg base CX0 3 f fd ["_law_p", "_law_one", "_law_other"] (spL2 (Fin p) (fun x y => x * y) fun _ _ => True) := by
  refine okH F sc_l_times (fun vs H Q E h => ?_) (fun cdv A outer s H vs Q E p0 hr hotb h => ?_)
  · obtain ⟨v1, v2, x, y, rfl, _⟩ := h
    rfl
  · obtain ⟨v1, v2, x, y, rfl, r1, r2, _, _, _, k⟩ := h
    cases (show v1 = .int (x.val : Int) from r1)
    cases (show v2 = .int (y.val : Int) from r2)
    refine ⟨_, (pss_cons (ps_if (pt_cmpR op_gt (pv 0) pe_int (nomark _))
      (pss_one (ps_ret (pe_op op_modN (pe_callTy call_int1 (by rfl) T.int (by decide +kernel) (pa_cons (pe_op op_mulW (pv 1) (pv 2)) pa_nil)) (pv 0))))
      pss_nil)
      (pss_one (ps_ret (pe_cdB D_l_low (hr.mono (by decide)) hotb (pa_cons (pe_op op_mulW (pe_ix (ix_tupK (K := K) rfl) (pv 1) pe_int (fun _ _ => rfl)) (pe_ix (ix_tupK (K := K) rfl) (pv 2) pe_int (fun _ _ => rfl))) (pa_cons (pe_op op_mulW (pe_ix (ix_tupK (K := K) rfl) (pv 1) pe_int (fun _ _ => rfl)) (pe_ix (ix_tupK (K := K) rfl) (pv 2) pe_int (fun _ _ => rfl))) pa_nil)))))), ?_⟩
    refine ⟨_, rfl, _, _, rfl, rfl, _, rfl, ?_⟩
    refine ite2 (fun _ => ?_) (fun z => absurd (decide_eq_true (p_pos (p := p))) z)
    refine ⟨_, rfl, _, rfl, _, _, rfl, rfl, cm_small (fin_small x) (fin_small y), .inl ⟨_, rfl, _, rfl, _, _, rfl, rfl, fin_pi (p := p), ?_⟩⟩
    refine k _ H (Same.refl H) ?_
    show V.int ((((x.val : Nat) : Int) * ((y.val : Nat) : Int)).fmod (p : Int)) = _
    rw [fin_mul]
theorem okH_l_over_fin {f : Addr} {fd : FuncData} (F : Fun K "_law_over" "_law_over" s_l_over f fd) (T : Blt mg) (D_l_low : DfnH P w K mg base 2 "_law_low" ["_law_top", "_law_bottom"] spLow) :
    FnH P w K mg base CX0 3 f fd ["_law_p", "_law_one", "_law_other"] (spL2 (Fin p) (fun x y => x * Fl.inv y) fun _ y => y ≠ 0) := by
  refine okH F sc_l_over (fun vs H Q E h => ?_) (fun cdv A outer s H vs Q E p0 hr hotb h => ?_)
  · obtain ⟨v1, v2, x, y, rfl, _⟩ := h
    rfl
  · obtain ⟨v1, v2, x, y, rfl, r1, r2, _, _, _, k⟩ := h
    cases (show v1 = .int (x.val : Int) from r1)
    cases (show v2 = .int (y.val : Int) from r2)
    have hp2 := PP.two
    have hpm := PP.most
    refine ⟨_, (pss_cons (ps_if (pt_cmpR op_eq (pv 0) pe_int (nomark _))
      (pss_one (ps_ret (pe_cdB D_l_low (hr.mono (by decide)) hotb (pa_cons (pe_op op_mulW (pe_ix (ix_tupK (K := K) rfl) (pv 1) pe_int (fun _ _ => rfl)) (pe_ix (ix_tupK (K := K) rfl) (pv 2) pe_int (fun _ _ => rfl))) (pa_cons (pe_op op_mulW (pe_ix (ix_tupK (K := K) rfl) (pv 1) pe_int (fun _ _ => rfl)) (pe_ix (ix_tupK (K := K) rfl) (pv 2) pe_int (fun _ _ => rfl))) pa_nil)))))
      pss_nil)
      (pss_cons (ps_set (i := 3) sc_l_over.nd rfl (by first | exact Or.inl rfl | exact Or.inr rfl) (pe_op op_modN (pe_callTy call_int1 (by rfl) T.int (by decide +kernel) (pa_cons (pv 1) pa_nil)) (pv 0)))
      (pss_cons (ps_set (i := 4) sc_l_over.nd rfl (by first | exact Or.inl rfl | exact Or.inr rfl) (pe_op op_modN (pe_callTy call_int1 (by rfl) T.int (by decide +kernel) (pa_cons (pv 2) pa_nil)) (pv 0)))
      (pss_cons (ps_set (i := 5) sc_l_over.nd rfl (by first | exact Or.inl rfl | exact Or.inr rfl) (pe_op op_sub (pv 0) pe_int))
      (pss_cons (ps_while PassesOwn.never (pt_cmpR op_gt (pv 5) pe_int (nomark _))
      (pss_cons (ps_if (pt_cmpR op_eq (pe_op op_modN (pe_callTy call_int1 (by rfl) T.int (by decide +kernel) (pa_cons (pv 5) pa_nil)) pe_int) pe_int (nomark _))
      (pss_one (ps_set (i := 3) sc_l_over.nd rfl (by first | exact Or.inl rfl | exact Or.inr rfl) (pe_op op_modN (pe_callTy call_int1 (by rfl) T.int (by decide +kernel) (pa_cons (pe_op op_mulW (pv 3) (pv 4)) pa_nil)) (pv 0))))
      pss_nil)
      (pss_cons (ps_set (i := 4) sc_l_over.nd rfl (by first | exact Or.inl rfl | exact Or.inr rfl) (pe_op op_modN (pe_callTy call_int1 (by rfl) T.int (by decide +kernel) (pa_cons (pe_op op_mulW (pv 4) (pv 4)) pa_nil)) (pv 0)))
      (pss_one (ps_set (i := 5) sc_l_over.nd rfl (by first | exact Or.inl rfl | exact Or.inr rfl) (pe_op op_fdivN (pv 5) pe_int))))))
      (pss_one (ps_ret (pv 3)))))))), ?_⟩
    refine ⟨_, rfl, rfl, _, rfl, ?_⟩
    refine ite2 (fun z => absurd (of_decide_eq_true z) (fun z => fin_p0 (p := p) (by injection z))) (fun _ => ?_)
    refine ⟨_, rfl, .inl ⟨_, rfl, _, rfl, _, _, rfl, rfl, fin_pi (p := p), ?_⟩⟩
    refine ⟨_, rfl, .inl ⟨_, rfl, _, rfl, _, _, rfl, rfl, fin_pi (p := p), ?_⟩⟩
    refine ⟨_, rfl, _, _, rfl, rfl, ?_⟩
    refine wh (fun σ H' => H' = H ∧ ∃ (o b : Fin p) (m : Nat), σ = [some (.int (p : Nat)), some (.int (x.val : Nat)), some (.int (y.val : Nat)), some (.int (o.val : Nat)), some (.int (b.val : Nat)), some (.int (m : Nat))] ∧ m < 2 ^ 14 ∧ fpow 14 o b m = x * finInv y)
      (fun σ _ => sec 5 σ) ⟨rfl, x, y, p - 2, ?_, by omega, ?_⟩ ?_ ?_
    · show [some (V.int (p : Nat)), some (V.int (x.val : Nat)), some (V.int (y.val : Nat)), some (V.int (((x.val : Nat) : Int).fmod (p : Int))), some (V.int (((y.val : Nat) : Int).fmod (p : Int))), some (V.int ((p : Int) - 2))] = _
      rw [fin_mod, fin_mod, show (p : Int) - 2 = ((p - 2 : Nat) : Int) by omega]
    · unfold finInv
      rw [← fpow_mul]
      congr 1
      grind
    · rintro σ H' ⟨rfl, o, b, m, rfl, hm, hf⟩
      refine ⟨_, rfl, _, _, rfl, rfl, _, rfl, ?_⟩
      refine ite2 (fun c => ?_) (fun c => ?_)
      · have c : (0 : Int) < (m : Int) := of_decide_eq_true c
        have m0 : m ≠ 0 := by omega
        have tn := fpow_turn (o := o) (b := b) m0 hm
        have ms : m / 2 < m := Nat.div_lt_self (by omega) (by decide)
        have em : ((m : Nat) : Int).fmod 2 = ((m % 2 : Nat) : Int) := mod_nat m 2
        have ed : ((m : Nat) : Int).fdiv 2 = ((m / 2 : Nat) : Int) := by rw [Int.fdiv_eq_ediv_of_nonneg _ (by decide)]; rfl
        refine ⟨_, rfl, .inl ⟨_, rfl, _, _, rfl, rfl, (by show (2 : Int) ≠ 0; decide), rfl, _, rfl, ?_⟩⟩
        refine ite2 (fun c2 => ?_) (fun c2 => ?_)
        · have c2 : m % 2 = 1 := by
            have z := of_decide_eq_true c2
            injection z with z
            rw [em] at z
            omega
          refine ⟨_, rfl, _, rfl, _, _, rfl, rfl, cm_small (fin_small o) (fin_small b), .inl ⟨_, rfl, _, rfl, _, _, rfl, rfl, fin_pi (p := p), ?_⟩⟩
          refine ⟨_, rfl, _, rfl, _, _, rfl, rfl, cm_small (fin_small b) (fin_small b), .inl ⟨_, rfl, _, rfl, _, _, rfl, rfl, fin_pi (p := p), ?_⟩⟩
          refine ⟨_, rfl, _, _, rfl, rfl, (by constructor <;> decide), ?_⟩
          refine ⟨⟨rfl, o * b, b * b, m / 2, ?_, by omega, ?_⟩, ?_⟩
          · show [some (V.int (p : Nat)), some (V.int (x.val : Nat)), some (V.int (y.val : Nat)), some (V.int ((((o.val : Nat) : Int) * ((b.val : Nat) : Int)).fmod (p : Int))), some (V.int ((((b.val : Nat) : Int) * ((b.val : Nat) : Int)).fmod (p : Int))), some (V.int (((m : Nat) : Int).fdiv 2))] = _
            rw [fin_mul, fin_mul, ed]
          · rw [← hf, tn, if_pos c2]
          · show (((m : Nat) : Int).fdiv 2).natAbs < m
            rw [ed]; exact ms
        · have c2 : ¬ m % 2 = 1 := fun z => c2 (decide_eq_true (by show V.int (((m : Nat) : Int).fmod 2) = V.int 1; rw [em, z]; rfl))
          refine ⟨_, rfl, _, rfl, _, _, rfl, rfl, cm_small (fin_small b) (fin_small b), .inl ⟨_, rfl, _, rfl, _, _, rfl, rfl, fin_pi (p := p), ?_⟩⟩
          refine ⟨_, rfl, _, _, rfl, rfl, (by constructor <;> decide), ?_⟩
          refine ⟨⟨rfl, o, b * b, m / 2, ?_, by omega, ?_⟩, ?_⟩
          · show [some (V.int (p : Nat)), some (V.int (x.val : Nat)), some (V.int (y.val : Nat)), some (V.int (o.val : Nat)), some (V.int ((((b.val : Nat) : Int) * ((b.val : Nat) : Int)).fmod (p : Int))), some (V.int (((m : Nat) : Int).fdiv 2))] = _
            rw [fin_mul, ed]
          · rw [← hf, tn, if_neg c2]
          · show (((m : Nat) : Int).fdiv 2).natAbs < m
            rw [ed]; exact ms
      · have c : ¬ (0 : Int) < (m : Int) := fun z => c (decide_eq_true z)
        have m0 : m = 0 := by omega
        subst m0
        rw [fpow_zero] at hf
        subst hf
        exact ⟨_, rfl, k _ _ (Same.refl H') rfl⟩
    · rintro σ H Q Q' f ⟨v, e, i, j, e1, e2, c, ec, q⟩
      exact ⟨v, e, i, j, e1, e2, c, ec, f _ _ q⟩
end
theorem okH_l_some_rat {f : Addr} {fd : FuncData} (F : Fun K "_law_some" "_law_some" s_l_some f fd) (T : Blt mg) : FnH P w K mg base CX0 1 f fd ["_law_p", "_law_number_here"] (spSome Rat) := by
  refine okH F sc_l_some (fun vs H Q E h => ?_) (fun cdv A outer s H vs Q E p0 hr hotb h => ?_)
  · obtain ⟨n, rfl, _⟩ := h
    rfl
  · obtain ⟨n, rfl, hn, k⟩ := h
    refine ⟨_, (pss_cons (ps_if (pt_cmpR op_gt (pv 0) pe_int (nomark _))
      (pss_one (ps_ret (pe_op op_modN (pe_callTy call_int1 (by rfl) T.int (by decide +kernel) (pa_cons (pv 1) pa_nil)) (pv 0))))
      pss_nil)
      (pss_one (ps_ret (pe_tup (pa_cons (pv 1) (pa_cons pe_int pa_nil)))))), ?_⟩
    refine ⟨_, rfl, _, _, rfl, rfl, _, rfl, ?_⟩
    refine ite2 rat_p (fun _ => ?_)
    refine ⟨_, rfl, (by show 2 ≤ sizeLine; decide), fun p hp => ?_⟩
    refine k _ _ (Same.new hp) ⟨p, rfl, ?_⟩
    obtain ⟨e1, e2⟩ := rat_num hn
    rw [upd_same, e1, e2]
    rfl
theorem okH_l_plus_rat {f : Addr} {fd : FuncData} (F : Fun K "_law_plus" "_law_plus" s_l_plus f fd) (T : Blt mg) (D_l_low : DfnH P w K mg base 2 "_law_low" ["_law_top", "_law_bottom"] spLow) :
    FnH P w K mg base CX0 3 f fd ["_law_p", "_law_one", "_law_other"] (spL2 Rat (fun x y => x + y) fun _ _ => True) := by
  refine okH F sc_l_plus (fun vs H Q E h => ?_) (fun cdv A outer s H vs Q E p0 hr hotb h => ?_)
  · obtain ⟨v1, v2, x, y, rfl, _⟩ := h
    rfl
  · obtain ⟨v1, v2, x, y, rfl, ⟨a, rfl, h1⟩, ⟨b, rfl, h2⟩, sx, sy, _, k⟩ := h
    have x0 := SqT.of (K := K) h1
    have y0 := SqT.of (K := K) h2
    refine ⟨_, (pss_cons (ps_if (pt_cmpR op_gt (pv 0) pe_int (nomark _))
      (pss_one (ps_ret (pe_op op_modN (pe_callTy call_int1 (by rfl) T.int (by decide +kernel) (pa_cons (pe_op op_add (pv 1) (pv 2)) pa_nil)) (pv 0))))
      pss_nil)
      (pss_one (ps_ret (pe_cdB D_l_low (hr.mono (by decide)) hotb (pa_cons (pe_op op_add (pe_op op_mulW (pe_ix (ix_tupK (K := K) rfl) (pv 1) pe_int (fun _ _ => rfl)) (pe_ix (ix_tupK (K := K) rfl) (pv 2) pe_int (fun _ _ => rfl))) (pe_op op_mulW (pe_ix (ix_tupK (K := K) rfl) (pv 2) pe_int (fun _ _ => rfl)) (pe_ix (ix_tupK (K := K) rfl) (pv 1) pe_int (fun _ _ => rfl)))) (pa_cons (pe_op op_mulW (pe_ix (ix_tupK (K := K) rfl) (pv 1) pe_int (fun _ _ => rfl)) (pe_ix (ix_tupK (K := K) rfl) (pv 2) pe_int (fun _ _ => rfl))) pa_nil)))))), ?_⟩
    refine ⟨_, rfl, _, _, rfl, rfl, _, rfl, ?_⟩
    refine ite2 rat_p (fun _ => ?_)
    refine ⟨_, rfl, a, _, 0, _, rfl, rfl, x0, rfl, _, rfl, b, _, 1, _, rfl, rfl, y0, rfl, _, _, rfl, rfl, cm9 (num_small sx) (den_small sy), ?_⟩
    refine ⟨_, rfl, b, _, 0, _, rfl, rfl, y0, rfl, _, rfl, a, _, 1, _, rfl, rfl, x0, rfl, _, _, rfl, rfl, cm9 (num_small sy) (den_small sx), _, _, rfl, rfl, ?_⟩
    refine ⟨_, rfl, a, _, 1, _, rfl, rfl, x0, rfl, _, rfl, b, _, 1, _, rfl, rfl, y0, rfl, _, _, rfl, rfl, cm9 (den_small sx) (den_small sy), ?_⟩
    refine ⟨_, _, rfl, den_ne x y, mul9 (den_small sx) (den_small sy), fun v H' s r => k v H' s ?_⟩
    rw [rat_add] at r
    exact r
theorem okH_l_times_rat {f : Addr} {fd : FuncData} (F : Fun K "_law_times" "_law_times" s_l_times f fd) (T : Blt mg) (D_l_low : DfnH P w K mg base 2 "_law_low" ["_law_top", "_law_bottom"] spLow) :
    FnH P w K mg base CX0 3 f fd ["_law_p", "_law_one", "_law_other"] (spL2 Rat (fun x y => x * y) fun _ _ => True) := by
  refine okH F sc_l_times (fun vs H Q E h => ?_) (fun cdv A outer s H vs Q E p0 hr hotb h => ?_)
  · obtain ⟨v1, v2, x, y, rfl, _⟩ := h
    rfl
  · obtain ⟨v1, v2, x, y, rfl, ⟨a, rfl, h1⟩, ⟨b, rfl, h2⟩, sx, sy, _, k⟩ := h
    have x0 := SqT.of (K := K) h1
    have y0 := SqT.of (K := K) h2
    refine ⟨_, (pss_cons (ps_if (pt_cmpR op_gt (pv 0) pe_int (nomark _))
      (pss_one (ps_ret (pe_op op_modN (pe_callTy call_int1 (by rfl) T.int (by decide +kernel) (pa_cons (pe_op op_mulW (pv 1) (pv 2)) pa_nil)) (pv 0))))
      pss_nil)
      (pss_one (ps_ret (pe_cdB D_l_low (hr.mono (by decide)) hotb (pa_cons (pe_op op_mulW (pe_ix (ix_tupK (K := K) rfl) (pv 1) pe_int (fun _ _ => rfl)) (pe_ix (ix_tupK (K := K) rfl) (pv 2) pe_int (fun _ _ => rfl))) (pa_cons (pe_op op_mulW (pe_ix (ix_tupK (K := K) rfl) (pv 1) pe_int (fun _ _ => rfl)) (pe_ix (ix_tupK (K := K) rfl) (pv 2) pe_int (fun _ _ => rfl))) pa_nil)))))), ?_⟩
    refine ⟨_, rfl, _, _, rfl, rfl, _, rfl, ?_⟩
    refine ite2 rat_p (fun _ => ?_)
    refine ⟨_, rfl, a, _, 0, _, rfl, rfl, x0, rfl, _, rfl, b, _, 0, _, rfl, rfl, y0, rfl, _, _, rfl, rfl, cm9 (num_small sx) (num_small sy), ?_⟩
    refine ⟨_, rfl, a, _, 1, _, rfl, rfl, x0, rfl, _, rfl, b, _, 1, _, rfl, rfl, y0, rfl, _, _, rfl, rfl, cm9 (den_small sx) (den_small sy), ?_⟩
    refine ⟨_, _, rfl, den_ne x y, mul9 (den_small sx) (den_small sy), fun v H' s r => k v H' s ?_⟩
    rw [rat_mul] at r
    exact r
theorem okH_l_over_rat {f : Addr} {fd : FuncData} (F : Fun K "_law_over" "_law_over" s_l_over f fd) (T : Blt mg) (D_l_low : DfnH P w K mg base 2 "_law_low" ["_law_top", "_law_bottom"] spLow) :
    FnH P w K mg base CX0 3 f fd ["_law_p", "_law_one", "_law_other"] (spL2 Rat (fun x y => x * Fl.inv y) fun _ y => y ≠ 0) := by
  refine okH F sc_l_over (fun vs H Q E h => ?_) (fun cdv A outer s H vs Q E p0 hr hotb h => ?_)
  · obtain ⟨v1, v2, x, y, rfl, _⟩ := h
    rfl
  · obtain ⟨v1, v2, x, y, rfl, ⟨a, rfl, h1⟩, ⟨b, rfl, h2⟩, sx, sy, hy, k⟩ := h
    have x0 := SqT.of (K := K) h1
    have y0 := SqT.of (K := K) h2
    have yn : y.num ≠ 0 := fun z => hy (Rat.num_eq_zero.mp z)
    refine ⟨_, (pss_cons (ps_if (pt_cmpR op_eq (pv 0) pe_int (nomark _))
      (pss_one (ps_ret (pe_cdB D_l_low (hr.mono (by decide)) hotb (pa_cons (pe_op op_mulW (pe_ix (ix_tupK (K := K) rfl) (pv 1) pe_int (fun _ _ => rfl)) (pe_ix (ix_tupK (K := K) rfl) (pv 2) pe_int (fun _ _ => rfl))) (pa_cons (pe_op op_mulW (pe_ix (ix_tupK (K := K) rfl) (pv 1) pe_int (fun _ _ => rfl)) (pe_ix (ix_tupK (K := K) rfl) (pv 2) pe_int (fun _ _ => rfl))) pa_nil)))))
      pss_nil)
      (pss_cons (ps_set (i := 3) sc_l_over.nd rfl (by first | exact Or.inl rfl | exact Or.inr rfl) (pe_op op_modN (pe_callTy call_int1 (by rfl) T.int (by decide +kernel) (pa_cons (pv 1) pa_nil)) (pv 0)))
      (pss_cons (ps_set (i := 4) sc_l_over.nd rfl (by first | exact Or.inl rfl | exact Or.inr rfl) (pe_op op_modN (pe_callTy call_int1 (by rfl) T.int (by decide +kernel) (pa_cons (pv 2) pa_nil)) (pv 0)))
      (pss_cons (ps_set (i := 5) sc_l_over.nd rfl (by first | exact Or.inl rfl | exact Or.inr rfl) (pe_op op_sub (pv 0) pe_int))
      (pss_cons (ps_while PassesOwn.never (pt_cmpR op_gt (pv 5) pe_int (nomark _))
      (pss_cons (ps_if (pt_cmpR op_eq (pe_op op_modN (pe_callTy call_int1 (by rfl) T.int (by decide +kernel) (pa_cons (pv 5) pa_nil)) pe_int) pe_int (nomark _))
      (pss_one (ps_set (i := 3) sc_l_over.nd rfl (by first | exact Or.inl rfl | exact Or.inr rfl) (pe_op op_modN (pe_callTy call_int1 (by rfl) T.int (by decide +kernel) (pa_cons (pe_op op_mulW (pv 3) (pv 4)) pa_nil)) (pv 0))))
      pss_nil)
      (pss_cons (ps_set (i := 4) sc_l_over.nd rfl (by first | exact Or.inl rfl | exact Or.inr rfl) (pe_op op_modN (pe_callTy call_int1 (by rfl) T.int (by decide +kernel) (pa_cons (pe_op op_mulW (pv 4) (pv 4)) pa_nil)) (pv 0)))
      (pss_one (ps_set (i := 5) sc_l_over.nd rfl (by first | exact Or.inl rfl | exact Or.inr rfl) (pe_op op_fdivN (pv 5) pe_int))))))
      (pss_one (ps_ret (pv 3)))))))), ?_⟩
    refine ⟨_, rfl, rfl, _, rfl, ?_⟩
    refine ite2 (fun _ => ?_) rat_p0
    refine ⟨_, rfl, a, _, 0, _, rfl, rfl, x0, rfl, _, rfl, b, _, 1, _, rfl, rfl, y0, rfl, _, _, rfl, rfl, cm9 (num_small sx) (den_small sy), ?_⟩
    refine ⟨_, rfl, a, _, 1, _, rfl, rfl, x0, rfl, _, rfl, b, _, 0, _, rfl, rfl, y0, rfl, _, _, rfl, rfl, cm9 (den_small sx) (num_small sy), ?_⟩
    refine ⟨_, _, rfl, Int.mul_ne_zero (by have := x.den_nz; omega) yn, mul9 (den_small sx) (num_small sy), fun v H' s r => k v H' s ?_⟩
    rw [rat_quot] at r
    exact r
theorem okH_l_minus {α : Type} [Rp α] {f : Addr} {fd : FuncData} (F : Fun K "_law_minus" "_law_minus" s_l_minus f fd)
    (D_l_some : DfnH P w K mg base 1 "_law_some" ["_law_p", "_law_number_here"] (spSome α)) (D_l_times : DfnH P w K mg base 3 "_law_times" ["_law_p", "_law_one", "_law_other"] (spL2 α (fun x y => x * y) fun _ _ => True)) :
    FnH P w K mg base CX0 4 f fd ["_law_p", "_law_one"] (spL1 α fun x => -1 * x) := by
  refine okH F sc_l_minus (fun vs H Q E h => ?_) (fun cdv A outer s H vs Q E p0 hr hotb h => ?_)
  · obtain ⟨v1, x, rfl, _⟩ := h
    rfl
  · obtain ⟨v1, x, rfl, r1, sx, k⟩ := h
    refine ⟨_, (pss_one (ps_ret (pe_cdB D_l_times (hr.mono (by decide)) hotb (pa_cons (pv 0) (pa_cons (pe_cdB D_l_some (hr.mono (by decide)) hotb (pa_cons (pv 0) (pa_cons (pe_un un_neg pe_int) pa_nil))) (pa_cons (pv 1) pa_nil)))))), ?_⟩
    refine ⟨_, rfl, _, rfl, _, rfl, -1, rfl, .inr (.inr rfl), fun v H' s r => ?_⟩
    refine ⟨_, rfl, v, v1, num α (-1), x, rfl, r, rep_ts (Tk.of s) r1, ?_, sx, trivial, fun v2 H2 s2 r2 => k v2 H2 (s.trans s2) ?_⟩
    · rw [num_cases.2.2]; exact sm_neg_one
    · rw [num_cases.2.2] at r2; exact r2
theorem okH_l_nought {α : Type} [Rp α] {f : Addr} {fd : FuncData} (F : Fun K "_law_nought" "_law_nought" s_l_nought f fd)
    (D_l_some : DfnH P w K mg base 1 "_law_some" ["_law_p", "_law_number_here"] (spSome α)) : FnH P w K mg base CX0 2 f fd ["_law_p", "_law_thing"] (spNought α) := by
  refine okH F sc_l_nought (fun vs H Q E h => ?_) (fun cdv A outer s H vs Q E p0 hr hotb h => ?_)
  · obtain ⟨v1, x, rfl, _⟩ := h
    rfl
  · obtain ⟨v1, x, rfl, r1, k⟩ := h
    refine ⟨_, (pss_one (ps_ret (pe_cmpR (op_eqK (K := K) rfl hr.units) (pv 1) (pe_cdB D_l_some (hr.mono (by decide)) hotb (pa_cons (pv 0) (pa_cons pe_int pa_nil))) (nomark _)))), ?_⟩
    refine ⟨_, rfl, _, rfl, 0, rfl, .inl rfl, fun v H' s r => ?_⟩
    rw [num_cases.1] at r
    refine ⟨dat x, dat (0 : α), rep_dp (rep_ts (Tk.of s) r1), rep_dp r, dat_shaped _, dat_shaped _, ?_⟩
    rw [dat_eqv]
    exact k H' s
section
variable {α : Type} [Rp α]
theorem okH_l_rank {f : Addr} {fd : FuncData} (F : Fun K "_law_rank" "_law_rank" s_l_rank f fd) (T : Blt mg) (L : LKitH P w K mg base α) :
    FnH P w K mg base CX0 5 f fd ["_law_p", "_law_rows_here"] (spLRank α) := by
  have D_l_plus := L.plus
  have D_l_times := L.times
  have D_l_minus := L.minus
  have D_l_over := L.over
  have D_l_nought := L.nought
  refine okH F sc_l_rank (fun vs H Q E h => ?_) (fun cdv A outer s H vs Q E p0 hr hotb h => ?_)
  · obtain ⟨vr, rows, wd, B, rfl, _⟩ := h
    rfl
  · obtain ⟨vr, rows, wd, B, rfl, ⟨rp, rvs, rfl, hrp, ar⟩, hw, hwd, hrn, hB, hcf, k⟩ := h
    refine ⟨_, (pss_cons (ps_setLcB (i := 2) (own := [("_law_row", 10)]) (g := (gName 10)) (tt := tYes) hotb sc_l_rank.nd rfl rfl (sw_true rfl rfl rfl (by decide +kernel)) (pi_listB (K := K) rfl (pv 1)) (blkOk_by (own := [("_law_row", 10)]) (N := ["_law_p", "_law_rows_here", "_law_left", "_law_rank_here", "_law_width", "_law_place", "_law_at", "_law_lead", "_law_k", "_law_factor", "_law_row", "_law_i"]) (sc := (defScope s_l_rank)) (by decide +kernel)) (fun _ _ _ _ _ => pg_name (i := 10) sc_l_rank.nd rfl (by first | exact Or.inl rfl | exact Or.inr rfl)) (fun _ _ _ _ _ => pts_nil) (fun _ _ _ _ _ hotb1 => (pe_callTy (call_lstK (K := K) rfl) (by rfl) T.list (by decide +kernel) (pa_cons (pv 10) pa_nil))))
      (pss_cons (ps_set (i := 3) sc_l_rank.nd rfl (by first | exact Or.inl rfl | exact Or.inr rfl) pe_int)
      (pss_cons (ps_set (i := 4) sc_l_rank.nd rfl (by first | exact Or.inl rfl | exact Or.inr rfl) pe_int)
      (pss_cons (ps_if (pt_truth (pv 2) (by intro _; rfl))
      (pss_one (ps_set (i := 4) sc_l_rank.nd rfl (by first | exact Or.inl rfl | exact Or.inr rfl) (pe_callB (call_lenK (K := K) rfl) (by rfl) T.len PySem.boot_len (pa_cons (pe_ix (ix_lstK (K := K) rfl) (pv 2) pe_int (fun _ _ => rfl)) pa_nil))))
      pss_nil)
      (pss_cons (ps_forB PassesOwn.never hotb (pi_range1B rfl T.range (pa_cons (pv 4) pa_nil)) (pg_name (i := 5) sc_l_rank.nd rfl (by first | exact Or.inl rfl | exact Or.inr rfl))
      (pss_cons (ps_set (i := 6) sc_l_rank.nd rfl (by first | exact Or.inl rfl | exact Or.inr rfl) (pv 3))
      (pss_cons (ps_while PassesOwn.never (PW.pt (pw_and (pt_cmpR op_lt (pv 6) (pe_callB (call_lenK (K := K) rfl) (by rfl) T.len PySem.boot_len (pa_cons (pv 2) pa_nil)) (nomark _)) (pw_and1 (pt_val (pe_cdB D_l_nought (hr.mono (by decide)) hotb (pa_cons (pv 0) (pa_cons (pe_ix (ix_lstK (K := K) rfl) (pe_ix (ix_lstK (K := K) rfl) (pv 2) (pv 6) (fun _ _ => rfl)) (pv 5) (fun _ _ => rfl)) pa_nil)))))))
      (pss_one (ps_set (i := 6) sc_l_rank.nd rfl (by first | exact Or.inl rfl | exact Or.inr rfl) (pe_op op_add (pv 6) pe_int))))
      (pss_one (ps_if (pt_cmpR op_lt (pv 6) (pe_callB (call_lenK (K := K) rfl) (by rfl) T.len PySem.boot_len (pa_cons (pv 2) pa_nil)) (nomark _))
      (pss_cons (ps_set (i := 7) sc_l_rank.nd rfl (by first | exact Or.inl rfl | exact Or.inr rfl) (pe_ix (ix_lstK (K := K) rfl) (pv 2) (pv 6) (fun _ _ => rfl)))
      (pss_cons (ps_asg (pe_ix (ix_lstK (K := K) rfl) (pv 2) (pv 3) (fun _ _ => rfl)) (pg_sub (pv 2) (pv 6) set_list))
      (pss_cons (ps_asg (pv 7) (pg_sub (pv 2) (pv 3) set_list))
      (pss_cons (ps_forB PassesOwn.never hotb (pi_range2B rfl T.range (pa_cons (pe_op op_add (pv 3) pe_int) (pa_cons (pe_callB (call_lenK (K := K) rfl) (by rfl) T.len PySem.boot_len (pa_cons (pv 2) pa_nil)) pa_nil))) (pg_name (i := 8) sc_l_rank.nd rfl (by first | exact Or.inl rfl | exact Or.inr rfl))
      (pss_cons (ps_set (i := 9) sc_l_rank.nd rfl (by first | exact Or.inl rfl | exact Or.inr rfl) (pe_cdB D_l_minus (hr.mono (by decide)) hotb (pa_cons (pv 0) (pa_cons (pe_cdB D_l_over (hr.mono (by decide)) hotb (pa_cons (pv 0) (pa_cons (pe_ix (ix_lstK (K := K) rfl) (pe_ix (ix_lstK (K := K) rfl) (pv 2) (pv 8) (fun _ _ => rfl)) (pv 5) (fun _ _ => rfl)) (pa_cons (pe_ix (ix_lstK (K := K) rfl) (pv 7) (pv 5) (fun _ _ => rfl)) pa_nil)))) pa_nil))))
      (pss_cons (ps_set (i := 10) sc_l_rank.nd rfl (by first | exact Or.inl rfl | exact Or.inr rfl) (pe_ix (ix_lstK (K := K) rfl) (pv 2) (pv 8) (fun _ _ => rfl)))
      (pss_one (ps_asg (pe_lcB (own := [("_law_i", 11)]) (g := (gName 11)) (tt := tYes) hotb sc_l_rank.nd (pi_range1B rfl T.range (pa_cons (pv 4) pa_nil)) (blkOk_by (own := [("_law_i", 11)]) (N := ["_law_p", "_law_rows_here", "_law_left", "_law_rank_here", "_law_width", "_law_place", "_law_at", "_law_lead", "_law_k", "_law_factor", "_law_row", "_law_i"]) (sc := (defScope s_l_rank)) (by decide +kernel)) (fun _ _ _ _ _ => pg_name (i := 11) sc_l_rank.nd rfl (by first | exact Or.inl rfl | exact Or.inr rfl)) (fun _ _ _ _ _ => pts_nil) (fun _ _ _ _ _ hotb1 => (pe_cdB D_l_plus (hr.mono (by decide)) hotb1 (pa_cons (pv 0) (pa_cons (pe_ix (ix_lstK (K := K) rfl) (pv 10) (pv 11) (fun _ _ => rfl)) (pa_cons (pe_cdB D_l_times (hr.mono (by decide)) hotb1 (pa_cons (pv 0) (pa_cons (pv 9) (pa_cons (pe_ix (ix_lstK (K := K) rfl) (pv 7) (pv 11) (fun _ _ => rfl)) pa_nil)))) pa_nil)))))) (pg_sub (pv 2) (pv 8) set_list))))))
      (pss_one (ps_set (i := 3) sc_l_rank.nd rfl (by first | exact Or.inl rfl | exact Or.inr rfl) (pe_op op_add (pv 3) pe_int)))))))
      pss_nil)))))
      (pss_one (ps_ret (pv 3)))))))), ?_⟩
    have hrl := ar.len
    refine ⟨_, rfl, rp, rfl, ⟨_, SqL.of hrp⟩, fun LL hL => ?_⟩
    refine lc_dat (walk_list (xs := rvs)) rows (RowL LL) hrl (by omega) hL RowL.same RowL.mut (fun H1 s => SqL.of (s _ _ hrp)) (fun i x H1 H' e hi he s1 ⟨acc, hacc⟩ y Nx kk => ?_) (fun H1 lvs s1 hlvs al => ?_)
    · obtain ⟨rfl, hx⟩ := y
      obtain ⟨R1, hR1, rR⟩ := ar.get hx
      obtain ⟨a, avs, rfl, ha, aa⟩ := rR.same s1
      rw [hR1] at he
      cases he
      refine ⟨rfl, ?_⟩
      exact ⟨_, rfl, a, avs, rfl, seq_of ha, fun l hl => kk _ _ ⟨l, avs, rfl, Ne.symm (ne_of_none hacc hl), upd_same, al_ts (Tk.new hl) aa⟩ (Same.new hl)⟩
    · have hll := al.len
      by_cases hne : rows = []
      · subst hne
        have l0 : lvs = [] := al.nil_iff.mpr rfl
        subst l0
        refine ⟨_, rfl, _, .inl ⟨[], SqL.of hlvs, rfl⟩, iteF ?_⟩
        refine ⟨_, rfl, (0 : Int), rfl, by decide, by decide, ?_⟩
        refine for_it (walk_r0 (n := ((0 : Int)).toNat)) (fun i σ H2 => H2 = H1 ∧ σ[3]? = some (some (.int 0))) ⟨rfl, rfl⟩ (fun i σ H1 _ q => trivial) (fun i x σ H1 H' hi q y => absurd hi (Nat.not_lt_zero i)) (fun σ H2 q => ?_)
        obtain ⟨rfl, q⟩ := q
        exact ⟨_, q, k _ s1⟩
      · have lne : lvs ≠ [] := fun z => hne (al.nil_iff.mp z)
        have emp : (!lvs.isEmpty) = true := by
          cases lvs with
          | nil => exact absurd rfl lne
          | cons a l => rfl
        have r0 : 0 < rows.length := List.length_pos_iff.mpr hne
        obtain ⟨u0, hu0, ⟨a0, us0, rfl, n0, ha0, aa0⟩⟩ := al.at (i := 0) (x := rows[0]) (List.getElem?_eq_getElem r0)
        refine ⟨_, rfl, _, .inl ⟨lvs, SqL.of hlvs, rfl⟩, ?_⟩
        rw [emp]
        refine iteT ?_
        have ew : us0.length = wd := by rw [aa0.len]; exact hw _ (List.getElem_mem r0)
        refine ⟨_, rfl, LL, lvs, 0, _, rfl, rfl, SqL.of hlvs, atI_nat (j := 0) hu0, a0, us0, rfl, .inl (SqL.of ha0), ?_⟩
        refine ⟨_, rfl, (us0.length : Int), rfl, by omega, by omega, ?_⟩
        rw [ew]
        refine for_it (walk_r0 (n := ((wd : Nat) : Int).toNat)) (fun c σ H2 => Same H H2 ∧ ∃ (lvs : List V) (x5 x6 x7 x8 x9 x10 x11 : Option V), σ = [some (.int (Fd.p α)), some (.ref rp), some (.ref LL), some (.int ((turns wd rows c).2 : Nat)), some (.int (wd : Nat)), x5, x6, x7, x8, x9, x10, x11] ∧
            H2 LL = some (.lst lvs) ∧ Al (RowL LL H2) lvs (turns wd rows c).1)
          ⟨s1, lvs, none, none, none, none, none, none, none, rfl, hlvs, al⟩ (fun i σ H1 _ q => trivial) (fun c x σ H2 H' hc q y => ?_) (fun σ H2 q => ?_)
        · obtain ⟨s2, lvs, x5, x6, x7, x8, x9, x10, x11, rfl, hl2, al2⟩ := q
          obtain ⟨rfl, rfl⟩ := y
          have hc' : c < wd := by omega
          have tok := turns_ok hw c
          have tcf := turns_cf (w := wd) hcf c
          have nxt := turns_succ (w := wd) (c := c) (rows := rows)
          have ll2 := al2.len
          generalize turns wd rows c = S at tok tcf nxt al2 ll2
          obtain ⟨st, r⟩ := S
          dsimp only at tcf al2 ll2
          have tl : st.length = rows.length := tok.len
          have tw : ∀ r ∈ st, r.length = wd := tok.wid
          have trc : r ≤ c := tok.lc
          have trm : r ≤ rows.length := tok.le
          refine ⟨_, rfl, ?_⟩
          refine wh (fun σ H3 => Same H' H3 ∧ ∃ at_ : Nat, σ = [some (.int (Fd.p α)), some (.ref rp), some (.ref LL), some (.int (r : Nat)), some (.int (wd : Nat)), some (.int (c : Nat)), some (.int (at_ : Nat)), x7, x8, x9, x10, x11] ∧ r ≤ at_ ∧ at_ ≤ st.length ∧ ∀ k, r ≤ k → k < at_ → fn (st.getD k []) c = 0)
            (fun σ _ => st.length - sec 6 σ) ⟨Same.refl H', r, rfl, Nat.le_refl _, by omega, fun k h1 h2 => by omega⟩ ?_ ?_
          · rintro σ H3 ⟨s3, at_, rfl, h1, h2, hz⟩
            have hl3 := s3 _ _ hl2
            have al3 : Al (RowL LL H3) lvs st := al2.mono fun _ _ q => q.same s3
            refine ⟨_, rfl, _, rfl, LL, lvs, rfl, .inl (SqL.of hl3), _, _, rfl, rfl, _, rfl, ?_⟩
            by_cases hlt : at_ < st.length
            · have hlt' : (at_ : Int) < (lvs.length : Int) := by omega
              rw [decide_eq_true hlt']
              refine iteT ?_
              have hmem := getD_mem (d := []) hlt
              obtain ⟨u, hu, ⟨au, aus, rfl, nu, hau, aau⟩⟩ := al3.at (i := at_) (x := st.getD at_ []) (by rw [getD_lt hlt]; exact List.getElem?_eq_getElem hlt)
              have hcw : c < (st.getD at_ []).length := by rw [tw _ hmem]; exact hc'
              obtain ⟨z, hz1, rz⟩ := aau.at (i := c) (x := fn (st.getD at_ []) c) (by rw [fn_lt hcw]; exact List.getElem?_eq_getElem hcw)
              refine ⟨_, rfl, _, rfl, _, rfl, LL, lvs, (at_ : Int), _, rfl, rfl, SqL.of hl3, atI_nat hu, _, rfl, au, aus, (c : Int), z, rfl, rfl, SqL.of hau, atI_nat hz1, ?_⟩
              refine ⟨z, fn (st.getD at_ []) c, rfl, rz, fun H4 s4 => ?_⟩
              have hl4 := s4 _ _ hl3
              have al4 : Al (RowL LL H4) lvs st := al3.mono fun _ _ q => q.same s4
              refine ⟨_, rfl, ?_⟩
              refine ite2 (fun cz => ?_) (fun cz => ?_)
              · have cz := of_decide_eq_true cz
                refine ⟨_, rfl, _, _, rfl, rfl, ⟨s3.trans s4, at_ + 1, rfl, by omega, by omega, fun k h3 h4 => ?_⟩, ?_⟩
                · by_cases hk : k < at_
                  · exact hz k h3 hk
                  · have : k = at_ := by omega
                    rw [this]; exact cz
                · show st.length - ((at_ : Int) + 1).natAbs < st.length - (at_ : Int).natAbs
                  omega
              · -- the pivot
                have cz : fn (st.getD at_ []) c ≠ 0 := fun z => cz (decide_eq_true z)
                have pv : pivot st r c = some at_ := pivot_at hlt h1 hz cz
                have hrl' : r < st.length := by omega
                refine ⟨_, rfl, _, rfl, LL, lvs, rfl, .inl (SqL.of hl4), _, _, rfl, rfl, _, rfl, ?_⟩
                rw [decide_eq_true hlt']
                refine iteT ?_
                obtain ⟨vr, hvr, rvr⟩ := al4.at (i := r) (x := st.getD r []) (by rw [getD_lt hrl']; exact List.getElem?_eq_getElem hrl')
                -- the swap
                refine ⟨_, rfl, _, rfl, LL, lvs, (at_ : Int), _, rfl, rfl, SqL.of hl4, atI_nat hu, ?_⟩
                refine ⟨_, rfl, _, rfl, LL, lvs, (r : Int), _, rfl, rfl, SqL.of hl4, atI_nat hvr, ?_⟩
                refine ⟨_, rfl, _, rfl, LL, lvs, (at_ : Int), at_, rfl, rfl, hl4, ixN_at (by omega), ?_⟩
                refine ⟨_, rfl, _, rfl, _, rfl, LL, _, (r : Int), r, rfl, rfl, upd_same, ixN_at (by rw [List.length_set]; omega), ?_⟩
                rw [upd_upd]
                have nL : H LL = none := hL
                have rlead : RowL LL H4 (.ref au) (st.getD at_ []) := ⟨au, aus, rfl, nu, s4 _ _ hau, al_ts (Tk.of s4) aau⟩
                have al5 : Al (RowL LL H4) ((lvs.set at_ vr).set r (.ref au)) (swapped st r at_) := (al4.set at_ rvr).set r rlead
                have lenS : (swapped st r at_).length = st.length := swapped_len
                -- the sweep
                have s5 : Same H (upd H4 LL (.lst ((lvs.set at_ vr).set r (.ref au)))) := Same.mut (s2.trans (s3.trans s4)) nL
                have ll5 : ((lvs.set at_ vr).set r (.ref au)).length = st.length := by rw [List.length_set, List.length_set]; exact ll2
                refine ⟨_, rfl, _, _, rfl, rfl, _, rfl, LL, _, rfl, .inl (SqL.of upd_same), _, _, rfl, ⟨by omega, by omega, by omega, by omega⟩, ?_⟩
                generalize hlead : st.getD at_ [] = lead at *
                generalize hsw : swapped st r at_ = sw at *
                have swm : ∀ x ∈ sw, x ∈ st := fun x hx => by rw [← hsw] at hx; exact swapped_mem hrl' hlt hx
                have leadw : lead.length = wd := tw _ hmem
                generalize hlv5 : ((lvs.set at_ vr).set r (.ref au)) = lv5 at *
                obtain ⟨n, hn⟩ : ∃ n : Nat, ((lv5.length : Int) - ((r : Int) + 1)).toNat = n := ⟨_, rfl⟩
                rw [hn]
                have hn' : r + 1 + n = sw.length := by omega
                refine for_it (walk_from (r := r) (n := n)) (fun i σ H6 => Same H H6 ∧ ∃ (lv : List V) (x8 x9 x10 x11 : Option V), σ = [some (.int (Fd.p α)), some (.ref rp), some (.ref LL), some (.int (r : Nat)), some (.int (wd : Nat)), some (.int (c : Nat)), some (.int (at_ : Nat)), some (.ref au), x8, x9, x10, x11] ∧
                    H6 LL = some (.lst lv) ∧ Al (RowL LL H6) lv (part wd c r lead sw (r + 1 + i)) ∧ H6 au = some (.lst aus) ∧ Al (rep H6) aus lead)
                  ⟨s5, lv5, _, _, _, _, rfl, upd_same, by rw [Nat.add_zero, part_first]; exact al5.mono fun _ _ q => q.mut hl4, by rw [upd_ne nu]; exact s4 _ _ hau, al_ts ((Tk.of s4).trans (Tk.lst hl4)) aau⟩ (fun i σ H1 _ q => trivial) (fun i x σ H6 H6' hi q y => ?_) (fun σ H6 q => ?_)
                · obtain ⟨s6, lv, x8, x9, x10, x11, rfl, hlv, alv, hau6, aau6⟩ := q
                  obtain ⟨rfl, rfl⟩ := y
                  have hk : r + 1 + i < sw.length := by omega
                  have lvl : lv.length = sw.length := by rw [alv.len, part_len]
                  have rm := getD_mem (d := []) hk
                  have rw_ : (sw.getD (r + 1 + i) []).length = wd := tw _ (swm _ rm)
                  obtain ⟨uk, huk, ⟨ak, aks, rfl, nk, hak, aak⟩⟩ := alv.at (i := r + 1 + i) (x := sw.getD (r + 1 + i) []) (by rw [← part_at (w := wd) (c := c) (r := r) (lead := lead) hk, getD_lt (by rw [part_len]; exact hk)]; exact List.getElem?_eq_getElem (by rw [part_len]; exact hk))
                  obtain ⟨Dk, cfk⟩ := tcf _ (swm _ rm)
                  obtain ⟨Dl, cfl⟩ := tcf _ hmem
                  have lo := less_ok (c := c) cfk cfl cz (it5 (by omega) hB)
                  generalize hrow : sw.getD (r + 1 + i) [] = row at *
                  have rowAt : ∀ {j : Nat}, j < wd → ∃ z, aks[j]? = some z ∧ rep H6' z (fn row j) := fun {j} hj => aak.at (x := fn row j) (by rw [fn_lt (by rw [rw_]; exact hj)]; exact List.getElem?_eq_getElem (by rw [rw_]; exact hj))
                  have leadAt : ∀ {j : Nat}, j < wd → ∃ z, aus[j]? = some z ∧ rep H6' z (fn lead j) := fun {j} hj => aau6.at (x := fn lead j) (by rw [fn_lt (by rw [leadw]; exact hj)]; exact List.getElem?_eq_getElem (by rw [leadw]; exact hj))
                  obtain ⟨zk, hzk, rzk⟩ := rowAt hc'
                  obtain ⟨zl, hzl, rzl⟩ := leadAt hc'
                  refine ⟨_, rfl, _, rfl, _, rfl, _, rfl, LL, lv, ((r + 1 + i : Nat) : Int), _, rfl, rfl, SqL.of hlv, atI_nat huk, _, rfl, ak, aks, (c : Int), zk, rfl, rfl, SqL.of hak, atI_nat hzk, _, rfl, _, rfl, au, aus, (c : Int), zl, rfl, rfl, SqL.of hau6, atI_nat hzl, ?_⟩
                  refine ⟨zk, zl, fn row c, fn lead c, rfl, rzk, rzl, lo.a, lo.b, cz, fun v7 H7 s7 r7 => ?_⟩
                  refine ⟨v7, fn row c * Fl.inv (fn lead c), rfl, r7, lo.q, fun v8 H8 s8 r8 => ?_⟩
                  have s78 := s7.trans s8
                  refine ⟨_, rfl, _, rfl, LL, lv, ((r + 1 + i : Nat) : Int), _, rfl, rfl, SqL.of (s78 _ _ hlv), atI_nat huk, ?_⟩
                  refine ⟨_, rfl, (wd : Int), rfl, by omega, by omega, fun D hD => ?_⟩
                  refine lc_dat (walk_r0 (n := ((wd : Nat) : Int).toNat)) (lessLead wd c lead row) rep (by rw [lessLead_len]; omega) (by omega) hD rep_m1 rep_m2 (fun H1 s => trivial) (fun j x H9 H9' e hj he s9 _ y Nx kk => ?_) (fun H9 acc s9 hacc al9 => ?_)
                  · obtain ⟨rfl, rfl⟩ := y
                    have hj' : j < wd := by omega
                    have eq : e = fn row j + (-1 * (fn row c * Fl.inv (fn lead c))) * fn lead j := by
                      unfold lessLead at he
                      rw [List.getElem?_map, List.getElem?_range hj'] at he
                      exact (Option.some.inj he).symm
                    obtain ⟨zj, hzj, rzj⟩ := rowAt hj'
                    obtain ⟨lj, hlj, rlj⟩ := leadAt hj'
                    have s79 := s78.trans s9
                    refine ⟨rfl, ?_⟩
                    refine ⟨_, rfl, _, rfl, _, rfl, ak, aks, (j : Int), zj, rfl, rfl, SqL.of (s79 _ _ hak), atI_nat hzj, ?_⟩
                    refine ⟨_, rfl, _, rfl, _, rfl, _, rfl, au, aus, (j : Int), lj, rfl, rfl, SqL.of (s79 _ _ hau6), atI_nat hlj, ?_⟩
                    refine ⟨v8, lj, -1 * (fn row c * Fl.inv (fn lead c)), fn lead j, rfl, rep_m1 s9 r8, rep_m1 s79 rlj, lo.f, lo.hl j, trivial, fun v10 H10 s10 r10 => ?_⟩
                    refine ⟨zj, v10, fn row j, -1 * (fn row c * Fl.inv (fn lead c)) * fn lead j, rfl, rep_m1 (s79.trans s10) rzj, r10, lo.hr j, lo.hp j, trivial, fun v11 H11 s11 r11 => kk v11 H11 ?_ (s10.trans s11)⟩
                    rw [eq]; exact r11
                  · have s79 := s78.trans s9
                    have hl9 := s79 _ _ hlv
                    refine ⟨_, rfl, _, rfl, LL, lv, ((r + 1 + i : Nat) : Int), r + 1 + i, rfl, rfl, hl9, ixN_at (by omega), ?_⟩
                    have nD : D ≠ LL := Ne.symm (ne_of_none (s78 _ _ hlv) hD)
                    refine ⟨Same.mut (s6.trans s79) nL, lv.set (r + 1 + i) (.ref D), _, _, _, _, rfl, upd_same, ?_, by rw [upd_ne nu]; exact s79 _ _ hau6, al_ts ((Tk.of s79).trans (Tk.lst hl9)) aau6⟩
                    rw [← Nat.add_assoc, part_next (by omega) hk, hrow]
                    refine Al.set (alv.mono fun _ _ q => (q.same s79).mut hl9) _ ⟨D, acc, rfl, nD, by rw [upd_ne nD]; exact hacc, al_ts (Tk.lst hl9) al9⟩
                · obtain ⟨s6, lv, x8, x9, x10, x11, rfl, hlv, alv, hau6, aau6⟩ := q
                  refine ⟨_, rfl, _, _, rfl, rfl, ?_⟩
                  have nx : turns wd rows (c + 1) = (swept wd c r lead sw, r + 1) := by
                    rw [nxt]
                    unfold lawTurn
                    dsimp only
                    rw [pv]
                    dsimp only
                    rw [hlead, hsw]
                  rw [hn', part_all] at alv
                  exact ⟨s6, lv, some (.int (c : Nat)), some (.int (at_ : Nat)), some (.ref au), x8, x9, x10, x11, by rw [nx]; rfl, hlv, by rw [nx]; exact alv⟩
            · have hlt' : ¬ (at_ : Int) < (lvs.length : Int) := by omega
              rw [decide_eq_false hlt']
              refine iteF ?_
              have e : at_ = st.length := by omega
              subst e
              have pv : pivot st r c = none := pivot_no hz
              refine ⟨_, rfl, _, rfl, LL, lvs, rfl, .inl (SqL.of hl3), _, _, rfl, rfl, _, rfl, ?_⟩
              rw [decide_eq_false hlt']
              refine iteF ?_
              have nx : turns wd rows (c + 1) = (st, r) := by
                rw [nxt]
                unfold lawTurn
                dsimp only
                rw [pv]
              exact ⟨s2.trans s3, lvs, some (.int (c : Nat)), some (.int (st.length : Nat)), x7, x8, x9, x10, x11, by rw [nx], hl3, by rw [nx]; exact al3⟩
          · rintro σ H5 Q5 Q6 f5 ⟨v, e, v2, e2, p, xs, e3, hs, i, j, e4, e5, b, e6, q⟩
            refine ⟨v, e, v2, e2, p, xs, e3, hs, i, j, e4, e5, b, e6, ?_⟩
            cases b with
            | false => exact f5 _ _ q
            | true =>
              obtain ⟨w1, g1, w2, g2, w3, g3, p1, xs1, i1, u1, g4, g5, g6, g7, w4, g8, p2, xs2, i2, u2, g9, g10, g11, g12, v1, x, g13, g14, q⟩ := q
              refine ⟨w1, g1, w2, g2, w3, g3, p1, xs1, i1, u1, g4, g5, g6, g7, w4, g8, p2, xs2, i2, u2, g9, g10, g11, g12, v1, x, g13, g14, fun H7 s7 => ?_⟩
              obtain ⟨c, ec, q⟩ := q H7 s7
              exact ⟨c, ec, f5 _ _ q⟩
        · obtain ⟨s2, lvs, x5, x6, x7, x8, x9, x10, x11, rfl, hl2, al2⟩ := q
          have e : ((wd : Nat) : Int).toNat = wd := by omega
          rw [e, ← turns_rank hw hne]
          exact ⟨_, rfl, k _ s2⟩
end
end
end W26

end

/-! ## WUndone -/
section
set_option Elab.async false
set_option linter.all false
set_option maxRecDepth 100000
set_option maxHeartbeats 8000000
/-! The law's undoing. -/
namespace W26
open PySem L2 M26
open Rp
open L2H (Hot1 PinOk HotC RoomH)
theorem takes0N {X : Cx} : L2N.Takes X (fun _ _ _ _ => False) := fun _ _ x => by
  obtain ⟨_, _, _, _, _, _, _, _, _, _, _, _, _, _, _, _, z⟩ := x
  exact z.elim
/-- a block under a premise that its reading bears -/
theorem pss_when {X : Cx} {st : List Stmt} {t : L2.TS} {p : Prop} (h : p → PSs X st t) : PSs X st (fun D σ H => p ∧ t D σ H) := ⟨fun pins s σ H D I q => (h q.1).run pins s σ H D I q.2⟩
theorem pss_of {X : Cx} {st : List Stmt} {t t' : L2.TS} (h : PSs X st t) (e : ∀ D σ H, t' D σ H → t D σ H) : PSs X st t' := ⟨fun pins s σ H D I q => h.run pins s σ H D I (e D σ H q)⟩
/-- what is known of the error's class -/
structure ErrC (K : PySem.W.Frag) (mg : Str → Option Value) (NC SE : Addr) : Prop where
  gN : mg "NotInvertible" = some (.ref NC)
  gS : mg "SheetError" = some (.ref SE)
  gV : mg "ValueError" = none
  ex : ExcC K NC
  k1 : PySem.W.kitOne K (.ref NC) (.ref NC) = some true
  k2 : PySem.W.kitOne K (.ref NC) (.type "ValueError") = some true
  te : PySem.W.exmOne K (.ref NC) (.ref SE) = some true
section
variable {P : Program} {w : World} {K : PySem.W.Frag} {mg : Str → Option Value} {base : Heap} {α : Type} [Rp α] [Shp α] {C : Addr}
def spUndone (α : Type) [Rp α] (C : Addr) : Sp := fun vs H Q _ => ∃ (fo : Addr) (vr : V) (rows : List (List α)) (n : Nat) (e0 : α), vs = [.int (Fd.p α), .ref fo, vr] ∧ FO α C H fo ∧ RwsT H vr rows ∧ rows.length = n ∧ 1 ≤ n ∧ n ≤ 5 ∧ (∀ r ∈ rows, r.length = n) ∧
  e0 ≠ 0 ∧ Fd.Z 47 e0 ∧ (∀ r ∈ rows, Cf e0 47 r) ∧ ∀ H', Same H H' → Q (.bl true) H'
theorem ok_l_undone {f : Addr} {fd : FuncData} {NC SE : Addr} (F : Fun K "_law_undone" "_law_undone" s_l_undone f fd) (T : Blt mg) (L : LKit P w K mg base α) (X0 : ErrC K mg NC SE)
    (U : ∃ (fu : Addr) (fdu : FuncData), mg "undoing_rows" = some (.ref fu) ∧ PySem.W.keepIn K (.ref fu) = true ∧ Binds K fdu ["field", "rows"] [] ∧ FnOk P w K mg base (L2N.CX P w) 7 fu fdu ["field", "rows"] (spUndo α C NC))
    (D_l_rank : Dfn P w K mg base CX0 5 "_law_rank" ["_law_p", "_law_rows_here"] (spLRank α)) (H_l_rank : DfnH P w K mg base 5 "_law_rank" ["_law_p", "_law_rows_here"] (spLRank α))
    (D_l_good_rows : Dfn P w K mg base CX0 4 "_law_good_rows" ["_law_p", "_law_rows_here", "_law_many", "_law_width"] (spGoodRows α))
    (D_l_sum : Dfn P w K mg base CX0 4 "_law_sum" ["_law_p", "_law_weights", "_law_rows_here", "_law_width"] (spLSum α)) :
    FnOk P w K mg base CX0 8 f fd ["_law_p", "_law_field_here", "_law_rows_here"] (spUndone α C) := by
  have D_l_some := L.some_
  obtain ⟨fu, fdu, mU, kU, bU, FU⟩ := U
  refine F.ok sc_l_undone (fun vs H Q E h => ?_) (fun cdv A outer s H vs Q E hr h => ?_)
  · obtain ⟨fo, vr, rows, n, e0, rfl, _⟩ := h
    rfl
  · obtain ⟨fo, vr, rows, n, e0, rfl, hF, ⟨ra, rvs, rfl, hra, ar⟩, hn, hn1, hn5, hw, hE, zE, hrc, k⟩ := h
    refine ⟨_, (pss_cons (ps_set (i := 3) sc_l_undone.nd rfl (by first | exact Or.inl rfl | exact Or.inr rfl) (pe_callB (call_lenK (K := K) rfl) (by rfl) T.len PySem.boot_len (pa_cons (pv 2) pa_nil)))
      (pss_cons (L2N.ps_try_as (i := 5) (c := .ref SE) (tb := fun W => tAsg (tCallS (spUndo α C NC) (WE W) (tCons (tVar 1) (tCons (tLc (iList K (tVar 2)) (gName 8) tYes (tCB (rLstK K) (tCons (tVar 8) tNil)) [8]) tNil))) (gName 4)) (ts := fun a cls d D σ H => (cls = Value.ref NC ∧ d = none) ∧ (tRet (tAndV (tCB (rIsE K NC a) (tCons (tVar 5) (tCons (tC (.ref NC)) tNil))) (tAndV (tCB (rIsE K NC a) (tCons (tVar 5) (tCons (tC (.ty "ValueError")) tNil))) (tOp (rI0 fun i j => V.bl (decide (i < j))) (tCall (spLRank α) [] E0 (tCons (tVar 0) (tCons (tVar 2) tNil))) (tVar 3))))) D σ H) (Wout := fun _ _ _ _ => False) rfl rfl sc_l_undone.nd rfl rfl ⟨rfl, by decide, Or.inl X0.gS⟩ takes0N
          (fun W pn xe tk _ => pss_one (ps_set (i := 4) sc_l_undone.nd rfl (by first | exact Or.inl rfl | exact Or.inr rfl) (pe_callS FU (hr.mono (by decide)) rfl mU kU bU (fun σ => L2N.passAt tk σ) (pa_cons (pv 1) (pa_cons (pe_lc (own := [("_law_row", 8)]) (g := (gName 8)) (tt := tYes) rfl sc_l_undone.nd (pi_lstK (K := K) rfl (pv 2)) (blkOk_by (own := [("_law_row", 8)]) (N := ["_law_p", "_law_field_here", "_law_rows_here", "_law_size", "_law_told", "e", "_law_units", "_law_i", "_law_row", "_law_k"]) (sc := (defScope s_l_undone)) (by decide +kernel)) (fun _ _ _ _ _ => pg_name (i := 8) sc_l_undone.nd rfl (by first | exact Or.inl rfl | exact Or.inr rfl)) (fun _ _ _ _ _ => pts_nil) (fun _ _ _ _ _ => (pe_callTy (call_lstK (K := K) rfl) (by rfl) T.list (by decide +kernel) (pa_cons (pv 8) pa_nil)))) pa_nil)))))
          (fun a oe cls d pn hz hf => pss_when fun hcd => by
            obtain ⟨rfl, rfl⟩ := hcd
            exact pss_one (ps_ret (pe_and (pe_callB (call_isE X0.ex hz.zc hf) (by rfl) T.isinstance (by decide +kernel) (pa_cons (pv 5) (pa_cons (pe_glob rfl X0.gN rfl) pa_nil))) (pe_and (pe_callB (call_isE X0.ex hz.zc hf) (by rfl) T.isinstance (by decide +kernel) (pa_cons (pv 5) (pa_cons (pe_bltn (v := .ty "ValueError") (by rfl) X0.gV (by decide +kernel) rfl) pa_nil))) (pe_one (pe_cmpR op_lt (pe_cdB H_l_rank ⟨(hr.mono (show 5 ≤ 7 by decide)).dp, (hr.mono (show 5 ≤ 7 by decide)).un⟩ (HotB.of ⟨(a, oe), ⟨rfl, hf.elim fun vs hv => ⟨vs, hv, hz.2.2 vs hv⟩⟩, List.mem_cons_self⟩) (pa_cons (pv 0) (pa_cons (pv 2) pa_nil))) (pv 3) (nomark _))))))))
      (pss_cons (ps_if (PW.pt (pw_or (pt_cmpR op_lt (pe_cd D_l_rank (hr.mono (by decide)) pass0 (pa_cons (pv 0) (pa_cons (pv 2) pa_nil))) (pv 3) (nomark _)) (pw_or1 (pt_not (pt_val (pe_cd D_l_good_rows (hr.mono (by decide)) pass0 (pa_cons (pv 0) (pa_cons (pv 4) (pa_cons (pv 3) (pa_cons (pv 3) pa_nil))))))))))
      (pss_one (ps_ret pe_bl))
      pss_nil)
      (pss_cons (ps_setLc (i := 6) (own := [("_law_i", 7)]) (g := (gName 7)) (tt := tYes) rfl sc_l_undone.nd rfl rfl (sw_true rfl rfl rfl (by decide +kernel)) (pi_range1 rfl T.range (pa_cons (pv 3) pa_nil)) (blkOk_by (own := [("_law_i", 7)]) (N := ["_law_p", "_law_field_here", "_law_rows_here", "_law_size", "_law_told", "e", "_law_units", "_law_i", "_law_row", "_law_k"]) (sc := (defScope s_l_undone)) (by decide +kernel)) (fun _ _ _ _ _ => pg_name (i := 7) sc_l_undone.nd rfl (by first | exact Or.inl rfl | exact Or.inr rfl)) (fun _ _ _ _ _ => pts_nil) (fun _ _ _ _ _ => (pe_callTy (call_tupK (K := K) rfl) (by rfl) T.tuple (by decide +kernel) (pa_cons (pe_lc (own := [("_law_k", 9)]) (g := (gName 9)) (tt := tYes) rfl sc_l_undone.nd (pi_range1 rfl T.range (pa_cons (pv 3) pa_nil)) (blkOk_by (own := [("_law_k", 9)]) (N := ["_law_p", "_law_field_here", "_law_rows_here", "_law_size", "_law_told", "e", "_law_units", "_law_i", "_law_row", "_law_k"]) (sc := (relS _ (defScope s_l_undone))) (by decide +kernel)) (fun _ _ _ _ _ => pg_name (i := 9) sc_l_undone.nd rfl (by first | exact Or.inl rfl | exact Or.inr rfl)) (fun _ _ _ _ _ => pts_nil) (fun _ _ _ _ _ => (pe_cd D_l_some (hr.mono (by decide)) pass0 (pa_cons (pv 0) (pa_cons (pe_callTy call_int1 (by rfl) T.int (by decide +kernel) (pa_cons (pe_cmpR op_eq (pv 7) (pv 9) (nomark _)) pa_nil)) pa_nil))))) pa_nil))))
      (pss_cons (ps_for PassesOwn.never rfl (pi_range1 rfl T.range (pa_cons (pv 3) pa_nil)) (pg_name (i := 7) sc_l_undone.nd rfl (by first | exact Or.inl rfl | exact Or.inr rfl))
      (pss_one (ps_if (PW.pt (pw_or (pt_cmpR (op_neK (K := K) rfl hr.units) (pe_cd D_l_sum (hr.mono (by decide)) pass0 (pa_cons (pv 0) (pa_cons (pe_ix (ix_lstK (K := K) rfl) (pv 2) (pv 7) (fun _ _ => rfl)) (pa_cons (pv 4) (pa_cons (pv 3) pa_nil))))) (pe_ix (ix_lstK (K := K) rfl) (pv 6) (pv 7) (fun _ _ => rfl)) (nomark _)) (pw_or1 (pt_cmpR (op_neK (K := K) rfl hr.units) (pe_cd D_l_sum (hr.mono (by decide)) pass0 (pa_cons (pv 0) (pa_cons (pe_ix (ix_tupK (K := K) rfl) (pv 4) (pv 7) (fun _ _ => rfl)) (pa_cons (pv 2) (pa_cons (pv 3) pa_nil))))) (pe_ix (ix_lstK (K := K) rfl) (pv 6) (pv 7) (fun _ _ => rfl)) (nomark _)))))
      (pss_one (ps_ret pe_bl))
      pss_nil)))
      (pss_one (ps_ret pe_bl))))))), ?_⟩
    have hwn : ∀ r ∈ rows, r.length = rows.length := fun r hr => by rw [hn]; exact hw r hr
    have hRT : RwsT H (.ref ra) rows := ⟨ra, rvs, rfl, hra, ar⟩
    have okR : RedOk rows rows.length 47 := ⟨hwn, by omega, by omega, by decide, fun r hr => ⟨e0, hrc r hr⟩⟩
    have hlb : LB 47 rows := fun r hr => ⟨e0, hrc r hr⟩
    refine ⟨_, rfl, ra, rvs, rfl, .inl (SqL.of hra), ?_⟩
    rw [ar.len, hn]
    refine ⟨_, rfl, _, rfl, ra, rfl, ⟨_, SqL.of hra⟩, fun D hD => ?_⟩
    refine lc_dat (walk_list (xs := rvs)) rows (RowL D) ar.len (by have := ar.len; omega) hD RowL.same RowL.mut (fun H1 s => SqL.of (s _ _ hra)) (fun i x H1 H' e hi he s1 ⟨acc, hacc⟩ y Nx kk => ?_) (fun H1 acc s1 hacc al => ?_)
    · obtain ⟨rfl, hx⟩ := y
      obtain ⟨R1, hR1, rR⟩ := ar.get hx
      obtain ⟨a, avs, rfl, ha, aa⟩ := rR.ts (Tk.of s1)
      rw [hR1] at he
      cases he
      refine ⟨rfl, ?_⟩
      exact ⟨_, rfl, a, avs, rfl, .inr (SqT.of ha), fun l hl => kk _ _ ⟨l, avs, rfl, Ne.symm (ne_of_none hacc hl), upd_same, al_ts (Tk.new hl) aa⟩ (Same.new hl)⟩
    · refine ⟨fo, .ref D, rows, 47, rfl, hF.same s1, ⟨D, acc, rfl, hacc, al.mono fun _ _ r => r.s⟩, okR, fun tab htl htw v H2 s2 hv => ?_, fun hnone H2 s2 => ?_⟩
      · -- it is undone
        have sH := s1.trans s2
        have w1 : ∀ i, i < n → weightsFor rows (unitRow n i) = some (tab.getD i []) := fun i hi => by
          have := htw i (tab.getD i []) (by rw [getD_lt (by omega)]; exact List.getElem?_eq_getElem (by omega))
          rw [hn] at this
          exact this
        have tabw : ∀ t ∈ tab, t.length = n := fun t ht => by
          obtain ⟨i, hi, e⟩ := List.getElem_of_mem ht
          have := (weightsFor_some hw unitRow_len (w1 i (by omega))).1
          rw [getD_lt hi, e] at this
          rw [this, hn]
        have full : ¬ lawRank rows < n := undo_full hn hw fun i hi z => by rw [w1 i hi] at z; cases z
        have back : ∀ i, i < n → lawSum (tab.getD i []) rows n = unitRow n i := fun i hi => sum_back hw unitRow_len (w1 i hi)
        have right : ∀ i, i < n → lawSum (rows.getD i []) tab n = unitRow n i := undo_right hn hw (by omega) tabw fun i hi c => (weightsFor_some hw unitRow_len (w1 i hi)).2 c
        obtain ⟨E1, hE1⟩ := weightsFor_cf (rows := rows) (B := 47) (fun r hr => ⟨e0, hrc r hr⟩)
        have tabc : ∀ t ∈ tab, Cf (1 * E1) 2079 t := fun t ht => by
          obtain ⟨i, hi, e⟩ := List.getElem_of_mem ht
          have := hE1 (Nat.le_refl 47) (unit_cf0 (n := n) (i := i) (by decide)) (w1 i (by omega))
          rw [getD_lt hi, e] at this
          exact this.mono (it_le5' (by omega) (by decide))
        have t0 : Cf (1 * E1) 2079 (tab.getD 0 []) := tabc _ (getD_mem (by omega))
        refine ⟨_, rfl, _, rfl, .ref ra, rows, n, 47, rfl, (hRT.same sH).s, hw, by omega, by omega, by decide, hlb, fun H3 s3 => ⟨_, rfl, _, _, rfl, rfl, _, rfl, ?_⟩⟩
        have nlt : ¬ ((lawRank rows : Nat) : Int) < (n : Int) := by omega
        rw [decide_eq_false nlt]
        refine iteF ?_
        refine ⟨_, rfl, _, rfl, _, rfl, _, rfl, v, tab, n, n, rfl, hv.ts (Tk.of s3), by omega, tabw, _, rfl, iteF ?_⟩
        refine ⟨_, rfl, (n : Int), rfl, by omega, by omega, fun D2 hD2 => ?_⟩
        refine lc_dat (walk_r0 (n := ((n : Nat) : Int).toNat)) (unitRows n : List (List α)) Row (by rw [unitRows_len]; omega) (by omega) hD2 row_m1 row_m2 (fun H1 s => trivial) (fun i x H4 H4' e hi he s4 _ y Nx kk => ?_) (fun H4 uvs s4 huvs alu => ?_)
        · obtain ⟨rfl, rfl⟩ := y
          have eq : e = unitRow n i := by
            unfold unitRows at he
            rw [List.getElem?_map, List.getElem?_range (by omega)] at he
            exact (Option.some.inj he).symm
          subst eq
          refine ⟨rfl, ?_⟩
          refine ⟨_, rfl, (n : Int), rfl, by omega, by omega, fun D3 hD3 => ?_⟩
          refine lc_dat (walk_r0 (n := ((n : Nat) : Int).toNat)) (unitRow n i : List α) rep (by rw [unitRow_len]; omega) (by omega) hD3 rep_m1 rep_m2 (fun H1 s => trivial) (fun j x H5 H5' e hj he2 s5 _ y Nx kk2 => ?_)
            (fun H5 acc s5 hacc al => ⟨D3, acc, rfl, .inl ⟨SqL.of hacc, fun l hl => kk _ _ ⟨l, acc, rfl, upd_same, al_ts (Tk.new hl) al⟩ (s5.trans (Same.new hl))⟩⟩)
          obtain ⟨rfl, rfl⟩ := y
          have eq : e = if i = j then 1 else 0 := by
            unfold unitRow at he2
            rw [List.getElem?_map, List.getElem?_range (by omega)] at he2
            exact (Option.some.inj he2).symm
          refine ⟨rfl, ?_⟩
          refine ⟨_, rfl, _, rfl, _, rfl, rfl, .inr ⟨_, rfl, ?_⟩⟩
          by_cases hij : i = j
          · subst hij
            rw [if_pos rfl] at eq
            have ed : decide (V.int (i : Int) = V.int (i : Int)) = true := decide_eq_true rfl
            refine ⟨1, ?_, .inr (.inl rfl), fun v5 H6 s6 r6 => kk2 v5 H6 ?_ s6⟩
            · show [V.int (Fd.p α), V.int (if decide (V.int (i : Int) = V.int (i : Int)) = true then 1 else 0)] = _
              rw [ed]; rfl
            · rw [num_cases.2.1] at r6
              rw [eq]; exact r6
          · rw [if_neg hij] at eq
            have ed : decide (V.int (i : Int) = V.int (j : Int)) = false := decide_eq_false fun z => hij (by injection z with z; omega)
            refine ⟨0, ?_, .inl rfl, fun v5 H6 s6 r6 => kk2 v5 H6 ?_ s6⟩
            · show [V.int (Fd.p α), V.int (if decide (V.int (i : Int) = V.int (j : Int)) = true then 1 else 0)] = _
              rw [ed]; rfl
            · rw [num_cases.1] at r6
              rw [eq]; exact r6
        · have s24 := s3.trans s4
          have sF := sH.trans s24
          refine ⟨_, rfl, (n : Int), rfl, by omega, by omega, ?_⟩
          obtain ⟨ta, tvs, rfl, hta, at_⟩ := id (hv.ts (Tk.of s24))
          refine for_it (walk_r0 (n := ((n : Nat) : Int).toNat)) (fun i σ H5 => Same H4 H5 ∧ ∃ ii rr kk, σ = [some (.int (Fd.p α)), some (.ref fo), some (.ref ra), some (.int (n : Nat)), some (.ref ta), none, some (.ref D2), ii, rr, kk])
            ⟨Same.refl _, _, _, _, rfl⟩ (fun i σ H1 _ q => trivial) (fun i x σ H5 H5' hi q y => ?_) (fun σ H5 q => ?_)
          · obtain ⟨s5, ii, rr, kk, rfl⟩ := q
            obtain ⟨rfl, rfl⟩ := y
            have hi' : i < n := by omega
            have sG := sF.trans s5
            obtain ⟨rv, hrv, rrv⟩ := ar.at (i := i) (x := rows.getD i []) (by rw [getD_lt (by omega)]; exact List.getElem?_eq_getElem (by omega))
            obtain ⟨uv, huv, ruv⟩ := alu.at (i := i) (x := unitRow n i) (by unfold unitRows; rw [List.getElem?_map, List.getElem?_range hi']; rfl)
            obtain ⟨tv, htv, rtv⟩ := at_.at (i := i) (x := tab.getD i []) (by rw [getD_lt (by omega)]; exact List.getElem?_eq_getElem (by omega))
            have hT5 : RwsU H5' (.ref ta) tab := (hv.ts (Tk.of (s24.trans s5)))
            have rl : (rows.getD i []).length = tab.length := by rw [hw _ (getD_mem (by omega))]; omega
            have tl : (tab.getD i []).length = rows.length := by rw [tabw _ (getD_mem (by omega))]; omega
            have rl0 : RowS H5' rv (rows.getD i []) := (rrv.ts (Tk.of sG)).s
            refine ⟨_, rfl, _, rfl, _, rfl, ra, rvs, (i : Int), rv, rfl, rfl, SqL.of (sG _ _ hra), atI_nat hrv, _, rfl, _, rfl, ?_⟩
            refine ⟨rv, .ref ta, rows.getD i [], tab, n, rfl, rl0, hT5.g, rl, by omega, by omega, tabw, sum_ok (hrc _ (getD_mem (by omega))) tabc t0.ne t0.zD (by omega), fun v6 H6 s6 r6 => ?_⟩
            rw [right i hi'] at r6
            refine ⟨_, rfl, _, rfl, D2, uvs, (i : Int), uv, rfl, rfl, SqL.of ((s5.trans s6) _ _ huvs), atI_nat huv, ?_⟩
            refine ⟨rowD (unitRow n i : List α), rowD (unitRow n i : List α), r6.dp, (ruv.ts (Tk.of (s5.trans s6))).dp, (rowD_nice _).shaped (by decide), (rowD_nice _).shaped (by decide), _, rfl, ?_⟩
            rw [(rowD_nice _).refl]
            refine iteF ?_
            refine ⟨_, rfl, _, rfl, _, rfl, ta, tvs, (i : Int), tv, rfl, rfl, SqT.of ((s5.trans s6) _ _ hta), atI_nat htv, _, rfl, _, rfl, ?_⟩
            refine ⟨tv, .ref ra, tab.getD i [], rows, n, rfl, (rtv.ts (Tk.of (s5.trans s6))).s, (hRT.same (sG.trans s6)).s.g, tl, by omega, by omega, hw, sum_ok (tabc _ (getD_mem (by omega))) hrc hE zE (by omega), fun v7 H7 s7 r7 => ?_⟩
            rw [back i hi'] at r7
            refine ⟨_, rfl, _, rfl, D2, uvs, (i : Int), uv, rfl, rfl, SqL.of (((s5.trans s6).trans s7) _ _ huvs), atI_nat huv, ?_⟩
            refine ⟨rowD (unitRow n i : List α), rowD (unitRow n i : List α), r7.dp, (ruv.ts (Tk.of ((s5.trans s6).trans s7))).dp, (rowD_nice _).shaped (by decide), (rowD_nice _).shaped (by decide), _, rfl, ?_⟩
            rw [(rowD_nice _).refl]
            refine iteF ?_
            exact ⟨(s5.trans s6).trans s7, _, _, _, rfl⟩
          · obtain ⟨s5, ii, rr, kk, rfl⟩ := q
            exact k _ (sF.trans s5)
      · -- it cannot be undone
        obtain ⟨i, hi, hz⟩ := hnone
        rw [hn] at hi hz
        have less : lawRank rows < n := undo_less hn hw hi hz
        have sH := s1.trans s2
        refine ⟨true, X0.te, fun _ a na => ⟨⟨rfl, rfl⟩, ?_⟩, fun z => Bool.noConfusion z⟩
        refine ⟨_, rfl, .ref NC, .ref NC, true, rfl, (fun u r => r), X0.k1, true, rfl, iteT ?_⟩
        refine ⟨_, rfl, .ty "ValueError", .type "ValueError", true, rfl, (fun u r => r), X0.k2, true, rfl, iteT ?_⟩
        refine ⟨_, rfl, _, rfl, .ref ra, rows, n, 47, rfl, (hRT.same sH).s, hw, by omega, by omega, by decide, hlb, fun H3 s3 => ⟨_, rfl, _, _, rfl, rfl, ?_⟩⟩
        have lt : ((lawRank rows : Nat) : Int) < (n : Int) := by omega
        show Q (.bl (decide (((lawRank rows : Nat) : Int) < (n : Int)))) H3
        rw [decide_eq_true lt]
        exact k _ (sH.trans s3)
end
end W26

end

/-! ## WLaw4 -/
section
set_option Elab.async false
set_option linter.all false
set_option maxRecDepth 100000
set_option maxHeartbeats 16000000
/-! The law. -/
namespace W26
open PySem L2 M26
open Rp
section
variable {P : Program} {w : World} {K : PySem.W.Frag} {mg : Str → Option Value} {base : Heap}
/-- what a def promises where no guard stands -/
structure FnOkG (P : Program) (w : World) (K : PySem.W.Frag) (mg : Str → Option Value) (base : Heap) (k : Nat) (f : Addr) (fd : FuncData) (ps : List Str) (sp : Sp) : Prop where
  len : ∀ vs H Q E, sp vs H Q E → vs.length = ps.length
  run : ∀ (A : Around) (outer : List Env) (s : Shared) (H : Hp) (args : Args) (us : List Value) (vs : List V) (Q : VK) (E : XK), A.guards = some [] → Room k A → Env0 P w K mg base A outer s H → BindsTo s fd args (ps.zip us) → Vals vs us → sp vs H Q E →
    codeAny (model P w) A (.call (.ref f) args) (CR CX0 outer P w H s Q E) s
open PyProof.Rows in
theorem okG {x qual : Str} {st : Stmt} {f : Addr} {fd : FuncData} {N ps : List Str} {k : Nat} {sp : Sp} (F : Fun K x qual st f fd) (S : FnScope N ps (defScope st)) (len : ∀ vs H Q E, sp vs H Q E → vs.length = ps.length)
    (hbody : ∀ (cdv : Value) (A : Around) (outer : List Env) (s : Shared) (H : Hp) (vs : List V) (Q : VK) (E : XK), (A.deeper (envOfC qual (defScope st) s.heap.objs.size f cdv)).guards = some [] → Room k (A.deeper (envOfC qual (defScope st) s.heap.objs.size f cdv)) → sp vs H Q E →
      ∃ t, PSs (cxOf CX0 P w K mg base N qual (defScope st) f cdv A outer s H E).nox (defBody st) t ∧ t { nx := fun _ H' => Q .non H', rt := Q } (start N vs) H) : FnOkG P w K mg base (k + 1) f fd ps sp := by
  obtain ⟨oc, od, kV, doc, pm, an, cdv, ct, osl, rfl, lk, hcd⟩ := F.ex
  refine ⟨len, fun A outer s H args us vs Q E hg hr e0 hb r hsp => ?_⟩
  have hl := len _ _ _ _ hsp
  have KX : K.In s.heap := e0.mod.kin.keeps fun b o e => (e0.bs b o e).1
  have lim : s.heap.NoLimit := e0.mod.nolimit.keeps fun b o e => (e0.bs b o e).1
  have hkind : ∀ y ∈ ps.zip us, (defScope st).names.lookup y.1 = some .local ∨ ((defScope st).names.lookup y.1 = some .cell ∧ ((cellsFrom (s.heap.objs.size + 1) (defScope st).names []).lookup y.1).isSome = true) := fun ⟨n, v⟩ hy => by
    rcases S.par n (List.of_mem_zip hy).1 with q | q
    · exact .inl q
    · exact .inr ⟨q, PySem.W.cellsFrom_some _ _ _ (.inl q)⟩
  refine codeAny_call_function hr.depth (KX _ _ lk) rfl S.co S.gen rfl (PySem.W.codeRec_of KX hcd) (hb _ _ _ _ ?_)
  refine wpAny_newFunctionEnv_cells S.kind hkind fun env he s1 x => ?_
  subst he
  refine ⟨lim.keeps x.toInCall.keep, codeAny_func ?_⟩
  obtain ⟨t, ht', hq⟩ := hbody cdv A outer s H vs Q E hg (hr.deeper _) hsp
  have ht := ht'.nox
  have I : Inv (cxOf CX0 P w K mg base N qual (defScope st) f cdv A outer s H E) [] (L2.start N vs) H s1 := inv_start S hr.hd e0 hl r x
  refine wpAny_mono (ht.run [] s1 (L2.start N vs) H _ I hq) (fun fl s' hs => ?_) fun e s' hs => hs
  have fin : ∀ {σ' : L2.St} {H' : Hp} {v : V} {u : Value}, Inv (cxOf CX0 P w K mg base N qual (defScope st) f cdv A outer s H E) [] σ' H' s' → RelV v u → Q v H' → CE outer P w H s Q u s' :=
    fun {σ' H' v u} J rv q => ⟨v, H', J.os, J.bare, J.base, J.hok, rv, q⟩
  cases fl with
  | ret u =>
    obtain ⟨v, σ', H', J, rv, q⟩ := hs
    exact fin J rv q
  | next =>
    obtain ⟨σ', H', J, q⟩ := hs
    exact fin (v := V.non) (u := Value.none) J rfl q
  | brk =>
    obtain ⟨_, _, _, q⟩ := hs
    exact False.elim q
  | cont =>
    obtain ⟨_, _, _, q⟩ := hs
    exact False.elim q
theorem call_repr_K {X : Cx} (hK : X.K = K) (hg : X.A.guards = some []) (hu : X.A.units + 64 < cLine) : CallR X (.builtin "repr") (rRepr K) := by subst hK; exact call_repr_data hg hu
theorem pt_truthK {X : Cx} {a : Expr} {ta : TE} (hK : X.K = K) (ha : PE X a ta) (he : ∀ whole, isTrue a X.env whole = (do let v ← whole; standAt a.pos; holding [v] (truthy v))) :
    PT X a (fun σ H Q => ta σ H fun x H' => ∃ k, TruV K x H' k ∧ Q k H') := by subst hK; exact pt_truth ha he
theorem add_nat {x y : V} {H : Hp} {Q : VK} {a b : Nat} (e1 : x = .int (a : Nat)) (e2 : y = .int (b : Nat)) (h : ∀ c : Nat, a + b = c → Q (.int (c : Nat)) H) : rI0 (fun i j => V.int (i + j)) x y H Q :=
  ⟨a, b, e1, e2, by
    show Q (.int ((a : Int) + (b : Int))) H
    rw [show (a : Int) + (b : Int) = ((a + b : Nat) : Int) by omega]
    exact h _ rfl⟩
theorem eq_gen {x y : V} {H : Hp} {Q : VK} (hs : scal x y = true) (h : ∀ b : Bool, decide (x = y) = b → Q (.bl b) H) : rEq x y H Q := ⟨hs, h _ rfl⟩
theorem eq_genC {x c : V} {σ : St} {H : Hp} {Q : VK} (hs : scal x c = true) (h : ∀ b : Bool, decide (x = c) = b → Q (.bl b) H) : tC c σ H (fun y H2 => rEq x y H2 Q) := ⟨hs, h _ rfl⟩
theorem iteN {A B : Prop} {b : Bool} (e : b = true) (h : B) : if (!b) = true then A else B := by
  rw [e]
  exact iteF h
/-- one of a family's promises -/
def anySp {ι : Type} (sp : ι → Sp) : Sp := fun vs H Q E => ∃ i, sp i vs H Q E
theorem FnOk.any {ι : Type} {CX : CXT} {k : Nat} {f : Addr} {fd : FuncData} {ps : List Str} {sp : ι → Sp} (h : ∀ i, FnOk P w K mg base CX k f fd ps (sp i)) : FnOk P w K mg base CX k f fd ps (anySp sp) :=
  ⟨fun vs H Q E ⟨i, q⟩ => (h i).len vs H Q E q, fun A outer s H args us vs Q E hr he hb hv ⟨i, q⟩ => (h i).run A outer s H args us vs Q E hr he hb hv q⟩
abbrev s_law : Stmt := topS 54
theorem sc_law : FnScope ["_law_script", "_law_state", "_law_p", "_law_field_here", "_law_width", "_law_rows_here", "_law_listed", "_law_handed", "_law_kept", "_law_rank_here", "_law_told", "_law_told_free", "_law_row", "_law_asked", "_law_inside", "_law_due", "_law_left", "_law_product", "_law_told_product", "_law_size", "_law_item", "_law_i", "_law_k"] ["_law_script"] (defScope s_law) :=
  ⟨rfl, rfl, rfl, by decide +kernel, rfl, by decide +kernel, by decide +kernel⟩
/-- a row that stands off the new list and off the state -/
def RowX (D st gr : Addr) {α : Type} [Rp α] (H : Hp) (v : V) (xs : List α) : Prop := ∃ (a : Addr) (vs : List V), v = .ref a ∧ a ≠ D ∧ a ≠ st ∧ a ≠ gr ∧ (H a = some (.lst vs) ∨ H a = some (.tup vs)) ∧ Al (rep H) vs xs
section
variable {α : Type} [Rp α]
theorem RowX.same {D st gr : Addr} {H H' : Hp} {v : V} {xs : List α} (s : Same H H') (h : RowX D st gr H v xs) : RowX D st gr H' v xs := by
  obtain ⟨a, vs, e, n1, n2, n3, h1, h2⟩ := h
  exact ⟨a, vs, e, n1, n2, n3, h1.elim (fun q => .inl (s _ _ q)) (fun q => .inr (s _ _ q)), al_ts (Tk.of s) h2⟩
theorem RowX.mut {D st gr : Addr} {H : Hp} {v : V} {xs : List α} {l l' : List V} (hL : H D = some (.lst l)) (h : RowX D st gr H v xs) : RowX D st gr (upd H D (.lst l')) v xs := by
  obtain ⟨a, vs, e, n1, n2, n3, h1, h2⟩ := h
  exact ⟨a, vs, e, n1, n2, n3, by rw [upd_ne n1]; exact h1, al_ts (Tk.lst hL) h2⟩
theorem RowX.offS {D st gr : Addr} {n : Nat} {H : Hp} {v : V} {xs : List α} (hst : StOk st gr n H) (h : RowX D st gr H v xs) : RowS (off st gr H) v xs := by
  obtain ⟨a, vs, e, n1, n2, n3, h1, h2⟩ := h
  exact ⟨a, vs, e, h1.elim (fun q => .inl (off_at n2 n3 q)) (fun q => .inr (off_at n2 n3 q)), al_ts hst.offTk h2⟩
end
theorem StOk.tupNe {st gr b : Addr} {n : Nat} {H : Hp} {xs : List V} (h : StOk st gr n H) (e : H b = some (.tup xs)) : b ≠ st ∧ b ≠ gr := by
  obtain ⟨_, gs, t, c, h1, h2, _, _⟩ := h
  exact ⟨Ne.symm (ne_of h1 e (by intro z; cases z)), Ne.symm (ne_of h2 e (by intro z; cases z))⟩
theorem off_ne {st gr b : Addr} {H : Hp} {u : HO} (e : off st gr H b = some u) : b ≠ st ∧ b ≠ gr := by
  unfold W26.off at e
  by_cases h : b = st ∨ b = gr
  · rw [if_pos h] at e; cases e
  · exact ⟨fun z => h (.inl z), fun z => h (.inr z)⟩
theorem FO.offS {α : Type} [Rp α] {C st gr fo : Addr} {n : Nat} {H : Hp} (hst : StOk st gr n H) (h : FO α C H fo) : FO α C (off st gr H) fo := by
  obtain ⟨dx, fs, h1, ⟨v0, z1, z2⟩, ⟨v1, o1, o2⟩, h4, h5, h6, h7, h8, h9⟩ := h
  obtain ⟨_, gs, t, c, g1, g2, _, _⟩ := id hst
  exact ⟨dx, fs, off_at (Ne.symm (ne_of g1 h1 (by intro z; cases z))) (Ne.symm (ne_of g2 h1 (by intro z; cases z))) h1, ⟨v0, z1, rep_ts hst.offTk z2⟩, ⟨v1, o1, rep_ts hst.offTk o2⟩, h4, h5, h6, h7, h8, h9⟩
theorem Row.offS {α : Type} [Rp α] {st gr : Addr} {n : Nat} {H : Hp} {v : V} {xs : List α} (hst : StOk st gr n H) (h : Row H v xs) : Row (off st gr H) v xs := h.ts hst.offTk
/-- list(row) if b else row -/
theorem asked_if {α : Type} [Rp α] {st gr : Addr} {c : Nat} {σ : St} {H : Hp} {F : VK} {n : Nat} {b : Bool} {v : V} {xs : List α} (hσ : σ[n]? = some (some v)) (hrow : Row H v xs) (hst : StOk st gr c H)
    (k : ∀ va H', Same H H' → RowS (off st gr H') va xs → F va H') : if b = true then tCB (rLstK K) (tCons (tVar n) tNil) σ H F else tVar n σ H F := by
  cases b with
  | true =>
    refine iteT ?_
    obtain ⟨a, vs, rfl, ha, al⟩ := hrow
    refine ⟨_, hσ, a, vs, rfl, .inr (SqT.of ha), fun l hl => k _ _ (Same.new hl) ?_⟩
    obtain ⟨n1, n2⟩ := hst.new hl
    exact ⟨l, vs, rfl, .inl (off_at n1 n2 upd_same), al_ts ((Tk.new hl).trans (hst.same (Same.new hl)).offTk) al⟩
  | false =>
    refine iteF ?_
    exact ⟨_, hσ, k _ _ (Same.refl H) (hrow.offS hst).s⟩
theorem lsum_in {α : Type} [Fl α] {rows : List (List α)} {ws : List α} {wd : Nat} (hw : ∀ r ∈ rows, r.length = wd) : M26.Sp (rows.map fn) (fn (lawSum ws rows wd)) :=
  (M26.Sp.lc (vs := rows.map fn) ws (rows.map fn) fun u hu => .mem hu).of_eq fun i => (fn_lawSum' hw i).symm
/-- the law's promise -/
def spLaw (K : PySem.W.Frag) : Sp := fun vs H Q _ => ∃ (a : Addr) (ns : List Int), vs = [.ref a] ∧ SqL K H a (ns.map V.int) ∧ ns.length ≤ 1000 ∧ ∀ H', Q (.bl true) H'
theorem ok_law {ι : Type} {ty : ι → Type} [R : ∀ i, Rp (ty i)] [∀ i, Shp (ty i)] {cl : ι → Addr} {f : Addr} {fd : FuncData} (F : Fun K "law" "law" s_law f fd) (T : Blt mg) (hp : ∀ p ∈ primes, ∃ i, Fd.p (ty i) = p)
    (D_l_start : Dfn P w K mg base CX0 1 "_law_start" ["_law_script"] (spStart K)) (D_l_prime : Dfn P w K mg base CX0 2 "_law_prime" ["_law_state"] spLPrime) (D_l_draw : Dfn P w K mg base CX0 1 "_law_draw" ["_law_state", "_law_many"] spDraw)
    (D_l_whole : Dfn P w K mg base CX0 1 "_law_whole" ["_law_thing"] spLWhole)
    (D_l_field : Dfn P w K mg base CX0 5 "_law_field" ["_law_p"] (anySp fun i => spField (ty i) (cl i)))
    (D_l_rows : Dfn P w K mg base CX0 5 "_law_rows" ["_law_state", "_law_p", "_law_many", "_law_width"] (anySp fun i => spRows (ty i)))
    (D_l_rank : Dfn P w K mg base CX0 5 "_law_rank" ["_law_p", "_law_rows_here"] (anySp fun i => spLRank (ty i)))
    (D_rank_of_rows : Dfn P w K mg base CX0 6 "rank_of_rows" ["field", "rows"] (anySp fun i => spRank (ty i) (cl i)))
    (D_rows_unbound : Dfn P w K mg base CX0 7 "rows_unbound" ["field", "rows"] (anySp fun i => spUnbound (ty i) (cl i)))
    (D_l_number : Dfn P w K mg base CX0 3 "_law_number" ["_law_state", "_law_p"] (anySp fun i => spNum (ty i) 23))
    (D_l_tiny : Dfn P w K mg base CX0 3 "_law_tiny" ["_law_state", "_law_p"] (anySp fun i => spNum (ty i) 5))
    (D_l_sum : Dfn P w K mg base CX0 4 "_law_sum" ["_law_p", "_law_weights", "_law_rows_here", "_law_width"] (anySp fun i => spLSum (ty i)))
    (D_l_right_weights : Dfn P w K mg base CX0 7 "_law_right_weights" ["_law_p", "_law_field_here", "_law_rows_here", "_law_row", "_law_due"] (anySp fun i => spRight (ty i) (cl i)))
    (D_rows_product : Dfn P w K mg base CX0 6 "rows_product" ["field", "rows", "others"] (anySp fun i => spProd (ty i) (cl i)))
    (D_l_good_rows : Dfn P w K mg base CX0 4 "_law_good_rows" ["_law_p", "_law_rows_here", "_law_many", "_law_width"] (anySp fun i => spGoodRows (ty i)))
    (D_l_undone : Dfn P w K mg base CX0 8 "_law_undone" ["_law_p", "_law_field_here", "_law_rows_here"] (anySp fun i => spUndone (ty i) (cl i))) :
    FnOkG P w K mg base 9 f fd ["_law_script"] (spLaw K) := by
  refine okG F sc_law (fun vs H Q E h => ?_) (fun cdv A outer s H vs Q E hg hr h => ?_)
  · obtain ⟨a, ns, rfl, _⟩ := h
    rfl
  · obtain ⟨a, ns, rfl, hS, hns, k⟩ := h
    refine ⟨_, (pss_cons (ps_set (i := 1) sc_law.nd rfl (by first | exact Or.inl rfl | exact Or.inr rfl) (pe_cd D_l_start (hr.mono (by decide)) pass0 (pa_cons (pv 0) pa_nil)))
      (pss_cons (ps_set (i := 2) sc_law.nd rfl (by first | exact Or.inl rfl | exact Or.inr rfl) (pe_cd D_l_prime (hr.mono (by decide)) pass0 (pa_cons (pv 1) pa_nil)))
      (pss_cons (ps_set (i := 3) sc_law.nd rfl (by first | exact Or.inl rfl | exact Or.inr rfl) (pe_cd D_l_field (hr.mono (by decide)) pass0 (pa_cons (pv 2) pa_nil)))
      (pss_cons (ps_set (i := 4) sc_law.nd rfl (by first | exact Or.inl rfl | exact Or.inr rfl) (pe_op op_add pe_int (pe_cd D_l_draw (hr.mono (by decide)) pass0 (pa_cons (pv 1) (pa_cons pe_int pa_nil)))))
      (pss_cons (ps_set (i := 5) sc_law.nd rfl (by first | exact Or.inl rfl | exact Or.inr rfl) (pe_cd D_l_rows (hr.mono (by decide)) pass0 (pa_cons (pv 1) (pa_cons (pv 2) (pa_cons (pe_cd D_l_draw (hr.mono (by decide)) pass0 (pa_cons (pv 1) (pa_cons pe_int pa_nil))) (pa_cons (pv 4) pa_nil))))))
      (pss_cons (ps_set (i := 6) sc_law.nd rfl (by first | exact Or.inl rfl | exact Or.inr rfl) (pe_cmpR op_eq (pe_cd D_l_draw (hr.mono (by decide)) pass0 (pa_cons (pv 1) (pa_cons pe_int pa_nil))) pe_int (nomark _)))
      (pss_cons (ps_setLc (i := 7) (own := [("_law_item", 20)]) (g := (gName 20)) (tt := tYes) rfl sc_law.nd rfl rfl (sw_true rfl rfl rfl (by decide +kernel)) (pi_lstK (K := K) rfl (pv 5)) (blkOk_by (own := [("_law_item", 20)]) (N := ["_law_script", "_law_state", "_law_p", "_law_field_here", "_law_width", "_law_rows_here", "_law_listed", "_law_handed", "_law_kept", "_law_rank_here", "_law_told", "_law_told_free", "_law_row", "_law_asked", "_law_inside", "_law_due", "_law_left", "_law_product", "_law_told_product", "_law_size", "_law_item", "_law_i", "_law_k"]) (sc := (defScope s_law)) (by decide +kernel)) (fun _ _ _ _ _ => pg_name (i := 20) sc_law.nd rfl (by first | exact Or.inl rfl | exact Or.inr rfl)) (fun _ _ _ _ _ => pts_nil) (fun _ _ _ _ _ => (pe_ifExp (pt_truthK (K := K) rfl (pv 6) (by intro _; rfl)) (pe_callTy (call_lstK (K := K) rfl) (by rfl) T.list (by decide +kernel) (pa_cons (pv 20) pa_nil)) (pv 20))))
      (pss_cons (ps_set (i := 8) sc_law.nd rfl (by first | exact Or.inl rfl | exact Or.inr rfl) (pe_callB (call_repr_K (K := K) rfl hg hr.units) (by rfl) T.repr (by decide +kernel) (pa_cons (pv 7) pa_nil)))
      (pss_cons (ps_set (i := 9) sc_law.nd rfl (by first | exact Or.inl rfl | exact Or.inr rfl) (pe_cd D_l_rank (hr.mono (by decide)) pass0 (pa_cons (pv 2) (pa_cons (pv 5) pa_nil))))
      (pss_cons (ps_set (i := 10) sc_law.nd rfl (by first | exact Or.inl rfl | exact Or.inr rfl) (pe_cd D_rank_of_rows (hr.mono (by decide)) pass0 (pa_cons (pv 3) (pa_cons (pv 7) pa_nil))))
      (pss_cons (ps_set (i := 11) sc_law.nd rfl (by first | exact Or.inl rfl | exact Or.inr rfl) (pe_cd D_rows_unbound (hr.mono (by decide)) pass0 (pa_cons (pv 3) (pa_cons (pv 7) pa_nil))))
      (pss_cons (ps_if (PW.pt (pw_or (pt_not (pt_val (pe_cd D_l_whole (hr.mono (by decide)) pass0 (pa_cons (pv 10) pa_nil)))) (pw_or (pt_cmpR op_ne (pv 10) (pv 9) (nomark _)) (pw_or (pt_not (pt_val (pe_callB (call_isiK' (K := K) rfl) (by rfl) T.isinstance (by decide +kernel) (pa_cons (pv 11) (pa_cons (pe_bltn (v := .ty "bool") (by rfl) T.bool (by decide +kernel) rfl) pa_nil))))) (pw_or1 (pt_cmpR op_ne (pv 11) (pe_cmpR op_eq (pv 9) (pe_callB (call_lenK (K := K) rfl) (by rfl) T.len PySem.boot_len (pa_cons (pv 5) pa_nil)) (nomark _)) (nomark _)))))))
      (pss_one (ps_ret pe_bl))
      pss_nil)
      (pss_cons (ps_set (i := 12) sc_law.nd rfl (by first | exact Or.inl rfl | exact Or.inr rfl) (pe_callTy (call_tupK (K := K) rfl) (by rfl) T.tuple (by decide +kernel) (pa_cons (pe_lc (own := [("_law_i", 21)]) (g := (gName 21)) (tt := tYes) rfl sc_law.nd (pi_range1 rfl T.range (pa_cons (pv 4) pa_nil)) (blkOk_by (own := [("_law_i", 21)]) (N := ["_law_script", "_law_state", "_law_p", "_law_field_here", "_law_width", "_law_rows_here", "_law_listed", "_law_handed", "_law_kept", "_law_rank_here", "_law_told", "_law_told_free", "_law_row", "_law_asked", "_law_inside", "_law_due", "_law_left", "_law_product", "_law_told_product", "_law_size", "_law_item", "_law_i", "_law_k"]) (sc := (defScope s_law)) (by decide +kernel)) (fun _ _ _ _ _ => pg_name (i := 21) sc_law.nd rfl (by first | exact Or.inl rfl | exact Or.inr rfl)) (fun _ _ _ _ _ => pts_nil) (fun _ _ _ _ _ => (pe_cd D_l_number (hr.mono (by decide)) pass0 (pa_cons (pv 1) (pa_cons (pv 2) pa_nil))))) pa_nil)))
      (pss_cons (ps_set (i := 13) sc_law.nd rfl (by first | exact Or.inl rfl | exact Or.inr rfl) (pe_ifExp (pt_truthK (K := K) rfl (pv 6) (by intro _; rfl)) (pe_callTy (call_lstK (K := K) rfl) (by rfl) T.list (by decide +kernel) (pa_cons (pv 12) pa_nil)) (pv 12)))
      (pss_cons (ps_set (i := 14) sc_law.nd rfl (by first | exact Or.inl rfl | exact Or.inr rfl) (pe_cd D_l_sum (hr.mono (by decide)) pass0 (pa_cons (pv 2) (pa_cons (pe_lc (own := [("_law_k", 22)]) (g := (gName 22)) (tt := tYes) rfl sc_law.nd (pi_range1 rfl T.range (pa_cons (pe_callB (call_lenK (K := K) rfl) (by rfl) T.len PySem.boot_len (pa_cons (pv 5) pa_nil)) pa_nil)) (blkOk_by (own := [("_law_k", 22)]) (N := ["_law_script", "_law_state", "_law_p", "_law_field_here", "_law_width", "_law_rows_here", "_law_listed", "_law_handed", "_law_kept", "_law_rank_here", "_law_told", "_law_told_free", "_law_row", "_law_asked", "_law_inside", "_law_due", "_law_left", "_law_product", "_law_told_product", "_law_size", "_law_item", "_law_i", "_law_k"]) (sc := (defScope s_law)) (by decide +kernel)) (fun _ _ _ _ _ => pg_name (i := 22) sc_law.nd rfl (by first | exact Or.inl rfl | exact Or.inr rfl)) (fun _ _ _ _ _ => pts_nil) (fun _ _ _ _ _ => (pe_cd D_l_tiny (hr.mono (by decide)) pass0 (pa_cons (pv 1) (pa_cons (pv 2) pa_nil))))) (pa_cons (pv 5) (pa_cons (pv 4) pa_nil))))))
      (pss_cons (ps_set (i := 15) sc_law.nd rfl (by first | exact Or.inl rfl | exact Or.inr rfl) (pe_cmpR op_eq (pe_cd D_l_rank (hr.mono (by decide)) pass0 (pa_cons (pv 2) (pa_cons (pe_op op_cat (pv 5) (pe_lst (pa_cons (pv 12) pa_nil))) pa_nil))) (pv 9) (nomark _)))
      (pss_cons (ps_if (pt_not (pt_val (pe_cd D_l_right_weights (hr.mono (by decide)) pass0 (pa_cons (pv 2) (pa_cons (pv 3) (pa_cons (pv 7) (pa_cons (pv 13) (pa_cons (pv 15) pa_nil))))))))
      (pss_one (ps_ret pe_bl))
      pss_nil)
      (pss_cons (ps_if (PW.pt (pw_or (pt_not (pt_val (pe_cd D_l_right_weights (hr.mono (by decide)) pass0 (pa_cons (pv 2) (pa_cons (pv 3) (pa_cons (pv 7) (pa_cons (pv 14) (pa_cons pe_bl pa_nil)))))))) (pw_or1 (pt_cmpR op_ne (pe_callB (call_repr_K (K := K) rfl hg hr.units) (by rfl) T.repr (by decide +kernel) (pa_cons (pv 7) pa_nil)) (pv 8) (nomark _)))))
      (pss_one (ps_ret pe_bl))
      pss_nil)
      (pss_cons (ps_if (pt_truth (pv 5) (by intro _; rfl))
      (pss_cons (ps_set (i := 16) sc_law.nd rfl (by first | exact Or.inl rfl | exact Or.inr rfl) (pe_cd D_l_rows (hr.mono (by decide)) pass0 (pa_cons (pv 1) (pa_cons (pv 2) (pa_cons (pe_op op_add pe_int (pe_cd D_l_draw (hr.mono (by decide)) pass0 (pa_cons (pv 1) (pa_cons pe_int pa_nil)))) (pa_cons (pe_callB (call_lenK (K := K) rfl) (by rfl) T.len PySem.boot_len (pa_cons (pv 5) pa_nil)) pa_nil))))))
      (pss_cons (ps_set (i := 17) sc_law.nd rfl (by first | exact Or.inl rfl | exact Or.inr rfl) (pe_callTy (call_tupK (K := K) rfl) (by rfl) T.tuple (by decide +kernel) (pa_cons (pe_lc (own := [("_law_item", 20)]) (g := (gName 20)) (tt := tYes) rfl sc_law.nd (pi_lstK (K := K) rfl (pv 16)) (blkOk_by (own := [("_law_item", 20)]) (N := ["_law_script", "_law_state", "_law_p", "_law_field_here", "_law_width", "_law_rows_here", "_law_listed", "_law_handed", "_law_kept", "_law_rank_here", "_law_told", "_law_told_free", "_law_row", "_law_asked", "_law_inside", "_law_due", "_law_left", "_law_product", "_law_told_product", "_law_size", "_law_item", "_law_i", "_law_k"]) (sc := (defScope s_law)) (by decide +kernel)) (fun _ _ _ _ _ => pg_name (i := 20) sc_law.nd rfl (by first | exact Or.inl rfl | exact Or.inr rfl)) (fun _ _ _ _ _ => pts_nil) (fun _ _ _ _ _ => (pe_cd D_l_sum (hr.mono (by decide)) pass0 (pa_cons (pv 2) (pa_cons (pv 20) (pa_cons (pv 5) (pa_cons (pv 4) pa_nil))))))) pa_nil)))
      (pss_cons (ps_set (i := 18) sc_law.nd rfl (by first | exact Or.inl rfl | exact Or.inr rfl) (pe_cd D_rows_product (hr.mono (by decide)) pass0 (pa_cons (pv 3) (pa_cons (pv 16) (pa_cons (pe_lc (own := [("_law_item", 20)]) (g := (gName 20)) (tt := tYes) rfl sc_law.nd (pi_lstK (K := K) rfl (pv 5)) (blkOk_by (own := [("_law_item", 20)]) (N := ["_law_script", "_law_state", "_law_p", "_law_field_here", "_law_width", "_law_rows_here", "_law_listed", "_law_handed", "_law_kept", "_law_rank_here", "_law_told", "_law_told_free", "_law_row", "_law_asked", "_law_inside", "_law_due", "_law_left", "_law_product", "_law_told_product", "_law_size", "_law_item", "_law_i", "_law_k"]) (sc := (defScope s_law)) (by decide +kernel)) (fun _ _ _ _ _ => pg_name (i := 20) sc_law.nd rfl (by first | exact Or.inl rfl | exact Or.inr rfl)) (fun _ _ _ _ _ => pts_nil) (fun _ _ _ _ _ => (pe_callTy (call_lstK (K := K) rfl) (by rfl) T.list (by decide +kernel) (pa_cons (pv 20) pa_nil)))) pa_nil)))))
      (pss_one (ps_if (PW.pt (pw_or (pt_not (pt_val (pe_cd D_l_good_rows (hr.mono (by decide)) pass0 (pa_cons (pv 2) (pa_cons (pv 18) (pa_cons (pe_callB (call_lenK (K := K) rfl) (by rfl) T.len PySem.boot_len (pa_cons (pv 16) pa_nil)) (pa_cons (pv 4) pa_nil))))))) (pw_or1 (pt_cmpR (op_neK (K := K) rfl hr.units) (pv 18) (pv 17) (nomark _)))))
      (pss_one (ps_ret pe_bl))
      pss_nil)))))
      pss_nil)
      (pss_cons (ps_set (i := 19) sc_law.nd rfl (by first | exact Or.inl rfl | exact Or.inr rfl) (pe_op op_add pe_int (pe_cd D_l_draw (hr.mono (by decide)) pass0 (pa_cons (pv 1) (pa_cons pe_int pa_nil)))))
      (pss_one (ps_ret (pe_cd D_l_undone (hr.mono (by decide)) pass0 (pa_cons (pv 2) (pa_cons (pv 3) (pa_cons (pe_cd D_l_rows (hr.mono (by decide)) pass0 (pa_cons (pv 1) (pa_cons (pv 2) (pa_cons (pv 19) (pa_cons (pv 19) pa_nil))))) pa_nil)))))))))))))))))))))))))), ?_⟩
    refine ⟨_, rfl, a, ns, rfl, hS, hns, fun st gr H1 s1 k1 => ?_⟩
    show tSeq _ _ _ [some (.ref a), some (.ref st), none, none, none, none, none, none, none, none, none, none, none, none, none, none, none, none, none, none, none, none, none] _
    refine ⟨_, rfl, st, gr, 0, rfl, k1, by decide, fun p hpm H2 s2 k2 => ?_⟩
    obtain ⟨i, rfl⟩ := hp p hpm
    show tSeq _ _ _ [some (.ref a), some (.ref st), some (.int (Fd.p (ty i))), none, none, none, none, none, none, none, none, none, none, none, none, none, none, none, none, none, none, none, none] _
    refine ⟨_, rfl, i, rfl, fun fo H3 s3 hF3 => ?_⟩
    show tSeq _ _ _ [some (.ref a), some (.ref st), some (.int (Fd.p (ty i))), some (.ref fo), none, none, none, none, none, none, none, none, none, none, none, none, none, none, none, none, none, none, none] _
    have k3 := k2.same s3
    have hF3o := hF3.offS k3
    -- the end, for any way to it
    have fin : ∀ (y0 y4 y5 y6 y7 y8 y9 y10 y11 y12 y13 y14 y15 y16 y17 y18 y19 y20 y21 y22 : Option V) (H20 : Hp) (n : Nat), n ≤ 5000 → StOk st gr n H20 → FO (ty i) (cl i) (off st gr H20) fo →
        tSeq (tAsg (tOp (rI0 fun i j => V.int (i + j)) (tC (V.int 1)) (tCall spDraw [] E0 (tCons (tVar 1) (tCons (tC (V.int 5)) tNil)))) (gName 19))
          (tRet (tCall (anySp fun i => spUndone (ty i) (cl i)) [] E0 (tCons (tVar 2) (tCons (tVar 3) (tCons (tCall (anySp fun i => spRows (ty i)) [] E0 (tCons (tVar 1) (tCons (tVar 2) (tCons (tVar 19) (tCons (tVar 19) tNil))))) tNil)))))
          { nx := fun _ H' => Q .non H', rt := Q } [y0, some (.ref st), some (.int (Fd.p (ty i))), some (.ref fo), y4, y5, y6, y7, y8, y9, y10, y11, y12, y13, y14, y15, y16, y17, y18, y19, y20, y21, y22] H20 := by
      intro y0 y4 y5 y6 y7 y8 y9 y10 y11 y12 y13 y14 y15 y16 y17 y18 y19 y20 y21 y22 H20 n hn k20 hF20
      refine ⟨_, rfl, st, gr, n, 5, rfl, k20, by decide, by decide, by omega, fun r H21 hr s21 k21 => add_nat (a := 1) (b := r) rfl rfl fun sz hsz => ?_⟩
      refine ⟨_, rfl, _, rfl, _, rfl, _, rfl, _, rfl, _, rfl, i, st, gr, n + 1, sz, sz, rfl, k21, by omega, by omega, by omega, fun v rows H22 hlen hrows s22 k22 hR22 => ?_⟩
      have hc : ∀ q ∈ rows, Cf (pw (ty i) sz) 47 q := fun q hq => (hrows q hq).2.mono (by omega)
      exact ⟨i, fo, v, rows, sz, pw (ty i) sz, rfl, (hF20.same (s21.trans s22).off).same off_same, hR22.same off_same, hlen, by omega, by omega, fun q hq => (hrows q hq).1, pw_ne _, Fd.z_mono (by omega) (z_pw sz), hc, fun H23 _ => k H23⟩
    refine ⟨_, rfl, st, gr, 1, 6, rfl, k3, by decide, by decide, by decide, fun r4 H4 hr4 s4 k4 => add_nat (a := 1) (b := r4) rfl rfl fun wd hwd => ?_⟩
    have hwd6 : wd ≤ 6 := by omega
    show tSeq _ _ _ [some (.ref a), some (.ref st), some (.int (Fd.p (ty i))), some (.ref fo), some (.int (wd : Nat)), none, none, none, none, none, none, none, none, none, none, none, none, none, none, none, none, none, none] _
    have hwd1 : 1 ≤ wd := by omega
    refine ⟨_, rfl, _, rfl, _, rfl, st, gr, 2, 7, rfl, k4, by decide, by decide, by decide, fun m H5 hm s5 k5 => ?_⟩
    refine ⟨_, rfl, i, st, gr, 3, m, wd, rfl, k5, by omega, by omega, by decide, fun vr rows H6 hlen hrows s6 k6 hR6 => ?_⟩
    have hwR : ∀ r ∈ rows, r.length = wd := fun r hr => (hrows r hr).1
    show tSeq _ _ _ [some (.ref a), some (.ref st), some (.int (Fd.p (ty i))), some (.ref fo), some (.int (wd : Nat)), some (vr), none, none, none, none, none, none, none, none, none, none, none, none, none, none, none, none, none] _
    have cfR : ∀ r ∈ rows, Cf (pw (ty i) m) 53 r := fun r hr => (hrows r hr).2.mono (by omega)
    have hE := pw_ne (α := ty i) m
    have zE : Fd.Z 53 (pw (ty i) m) := Fd.z_mono (by omega) (z_pw m)
    have lbR : LB 53 rows := fun r hr => ⟨_, cfR r hr⟩
    have redR : RedOk rows wd 53 := ⟨hwR, by omega, by omega, by decide, fun r hr => ⟨_, cfR r hr⟩⟩
    have hF6 : FO (ty i) (cl i) (off st gr H6) fo := hF3o.same (s4.trans (s5.trans s6)).off
    refine ⟨_, rfl, st, gr, 1003, 2, rfl, k6, by decide, by decide, by decide, fun r7 H7 hr7 s7 k7 => eq_genC rfl fun listed hlisted => ?_⟩
    have hR7 : RwsT (off st gr H7) vr rows := hR6.same s7.off
    show tSeq _ _ _ [some (.ref a), some (.ref st), some (.int (Fd.p (ty i))), some (.ref fo), some (.int (wd : Nat)), some (vr), some (.bl listed), none, none, none, none, none, none, none, none, none, none, none, none, none, none, none, none] _
    have hF7 : FO (ty i) (cl i) (off st gr H7) fo := hF6.same s7.off
    obtain ⟨ra, rvs, rfl, hra0, ar0⟩ := id hR7
    have hra : H7 ra = some (.lst rvs) := off_same _ _ hra0
    have ar : Al (Row H7) rvs rows := ar0.mono fun _ _ r => r.ts (Tk.of off_same)
    have arl := ar.len
    refine ⟨_, rfl, ra, rfl, ⟨_, SqL.of hra⟩, fun D hD => ?_⟩
    obtain ⟨dn1, dn2⟩ := k7.new hD
    refine lc_dat (walk_list (xs := rvs)) rows (RowX D st gr) arl (by omega) hD RowX.same RowX.mut (fun H1 s => SqL.of (s _ _ hra)) (fun j x H8 H8' e hj he s8 hac y Nx kk => ?_) (fun H8 hvs s8 hhv alh => ?_)
    · obtain ⟨acc, hacc⟩ := hac
      obtain ⟨rfl, hx⟩ := y
      obtain ⟨R1, hR1, rR⟩ := ar.get hx
      obtain ⟨ta, tvs, rfl, hta, aa⟩ := rR.ts (Tk.of s8)
      rw [hR1] at he
      cases he
      refine ⟨rfl, ?_⟩
      refine ⟨_, rfl, listed, rfl, ?_⟩
      have k8 := k7.same s8
      refine ite2 (fun _ => ?_) (fun _ => ?_)
      · refine ⟨_, rfl, ta, tvs, rfl, .inr (SqT.of hta), fun l hl => ?_⟩
        obtain ⟨n1, n2⟩ := k8.new hl
        exact kk _ _ ⟨l, tvs, rfl, Ne.symm (ne_of_none hacc hl), n1, n2, .inl upd_same, al_ts (Tk.new hl) aa⟩ (Same.new hl)
      · obtain ⟨n1, n2⟩ := k8.tupNe hta
        exact ⟨_, rfl, kk _ _ ⟨ta, tvs, rfl, Ne.symm (ne_of hacc hta (by intro z; cases z)), n1, n2, .inr hta, aa⟩ (Same.refl _)⟩
    have k8 := k7.same s8
    have o78 := (SX.of (st := st) (gr := gr) s8).off
    show tSeq _ _ _ [some (.ref a), some (.ref st), some (.int (Fd.p (ty i))), some (.ref fo), some (.int (wd : Nat)), some (.ref ra), some (.bl listed), some (.ref D), none, none, none, none, none, none, none, none, none, none, none, none, none, none, none] _
    have hR8 : RwsT (off st gr H8) (.ref ra) rows := hR7.same o78
    have hF8 : FO (ty i) (cl i) (off st gr H8) fo := hF7.same o78
    have hHo : Rws (off st gr H8) (.ref D) rows := ⟨D, hvs, rfl, off_at dn1 dn2 hhv, alh.mono fun _ _ r => r.offS k8⟩
    obtain ⟨d, dok, dk⟩ := hHo.repr (by omega) (fun r hr => by rw [hwR r hr]; omega) (fun r hr x hx => Shp.text hE (show 53 ≤ 60 by decide) zE ((cfR r hr).z x hx))
    refine ⟨_, rfl, D, d, rfl, dk _ off_same, dok, ?_⟩
    show tSeq _ _ _ [some (.ref a), some (.ref st), some (.int (Fd.p (ty i))), some (.ref fo), some (.int (wd : Nat)), some (.ref ra), some (.bl listed), some (.ref D), some (.str d.shown), none, none, none, none, none, none, none, none, none, none, none, none, none, none] _
    refine ⟨_, rfl, _, rfl, i, .ref ra, rows, wd, 53, rfl, (hR8.same off_same).s, hwR, hwd6, by omega, by decide, lbR, fun H9 s9 => ?_⟩
    have o9 := (SX.of (st := st) (gr := gr) s9).off
    show tSeq _ _ _ [some (.ref a), some (.ref st), some (.int (Fd.p (ty i))), some (.ref fo), some (.int (wd : Nat)), some (.ref ra), some (.bl listed), some (.ref D), some (.str d.shown), some (.int (lawRank rows : Nat)), none, none, none, none, none, none, none, none, none, none, none, none, none] _
    refine ⟨_, rfl, _, rfl, i, fo, .ref D, rows, wd, 53, rfl, (hF8.same o9).same off_same, (hHo.same o9).same off_same, redR, fun H10 s10 => ?_⟩
    have o10 := (SX.of (st := st) (gr := gr) (s9.trans s10)).off
    show tSeq _ _ _ [some (.ref a), some (.ref st), some (.int (Fd.p (ty i))), some (.ref fo), some (.int (wd : Nat)), some (.ref ra), some (.bl listed), some (.ref D), some (.str d.shown), some (.int (lawRank rows : Nat)), some (.int ((redKept rows).length : Nat)), none, none, none, none, none, none, none, none, none, none, none, none] _
    refine ⟨_, rfl, _, rfl, i, fo, .ref D, rows, wd, 53, rfl, (hF8.same o10).same off_same, (hHo.same o10).same off_same, redR, fun H11 s11 => ?_⟩
    have s8_11 := (s9.trans s10).trans s11
    show tSeq _ _ _ [some (.ref a), some (.ref st), some (.int (Fd.p (ty i))), some (.ref fo), some (.int (wd : Nat)), some (.ref ra), some (.bl listed), some (.ref D), some (.str d.shown), some (.int (lawRank rows : Nat)), some (.int ((redKept rows).length : Nat)), some (.bl (decide ((redKept rows).length = rows.length))), none, none, none, none, none, none, none, none, none, none, none] _
    have o11 := (SX.of (st := st) (gr := gr) s8_11).off
    have k11 := k8.same s8_11
    have rk : lawRank rows = (redKept rows).length := lawRank_eq hwR
    have hra11 : H11 ra = some (.lst rvs) := s8_11 _ _ (s8 _ _ hra)
    -- ranks
    refine ⟨_, rfl, ((redKept rows).length : Int), rfl, _, rfl, iteF ?_⟩
    refine ⟨_, rfl, _, rfl, rfl, _, rfl, ?_⟩
    refine iteN (decide_eq_true (show V.int ((redKept rows).length : Int) = V.int (lawRank rows : Int) by rw [rk])) ?_
    refine ⟨_, rfl, _, .ty "bool", .type "bool", .type "bool", true, rfl, .ty "bool", .base (.bl _), kit_ty (by decide +kernel), _, rfl, iteF ?_⟩
    refine ⟨_, rfl, _, rfl, _, rfl, ra, rvs, rfl, .inl (SqL.of hra11), rfl, rfl, _, rfl, ?_⟩
    have eb : decide (V.bl (decide ((redKept rows).length = rows.length)) = V.bl (decide (V.int (lawRank rows : Int) = V.int (rvs.length : Int)))) = true := by
      rw [rk, arl]
      by_cases h : (redKept rows).length = rows.length
      · rw [decide_eq_true h, h, decide_eq_true (rfl : V.int (rows.length : Int) = _)]; exact decide_eq_true rfl
      · rw [decide_eq_false h, decide_eq_false (show ¬ V.int ((redKept rows).length : Int) = V.int (rows.length : Int) from fun z => h (by injection z with z; omega))]; exact decide_eq_true rfl
    refine iteN eb ?_
    show tSeq _ _ _ [some (.ref a), some (.ref st), some (.int (Fd.p (ty i))), some (.ref fo), some (.int (wd : Nat)), some (.ref ra), some (.bl listed), some (.ref D), some (.str d.shown), some (.int (lawRank rows : Nat)), some (.int ((redKept rows).length : Nat)), some (.bl (decide ((redKept rows).length = rows.length))), none, none, none, none, none, none, none, none, none, none, none] _
    -- row
    refine ⟨_, rfl, (wd : Int), rfl, by omega, by omega, fun D2 hD2 => ?_⟩
    refine lc_drw (walk_r0 (n := ((wd : Nat) : Int).toNat)) 4 (rep : Hp → V → ty i → Prop) (fun x => Fd.Z 23 (Fd.six * x)) (by omega) hD2 k11 rep_ts (fun _ _ => trivial) (fun j x H12 H12' hj s12 k12 y Nx kk => ?_) (fun H12 acc row s12 k12 hacc alr hlr hzr => ?_)
    · obtain ⟨rfl, rfl⟩ := y
      refine ⟨rfl, ?_⟩
      exact ⟨_, rfl, _, rfl, i, st, gr, _, rfl, k12, by omega, fun v e H13 hz r6 s6 k6' => kk v e H13 hz r6 s6 (k6'.mono (by omega))⟩
    refine ⟨D2, acc, rfl, .inl ⟨SqL.of hacc, fun rA hrA => ?_⟩⟩
    have hlr' : row.length = wd := by omega
    show tSeq _ _ _ [some (.ref a), some (.ref st), some (.int (Fd.p (ty i))), some (.ref fo), some (.int (wd : Nat)), some (.ref ra), some (.bl listed), some (.ref D), some (.str d.shown), some (.int (lawRank rows : Nat)), some (.int ((redKept rows).length : Nat)), some (.bl (decide ((redKept rows).length = rows.length))), some (.ref rA), none, none, none, none, none, none, none, none, none, none] _
    have s13 : SX st gr H11 (upd H12 rA (.tup acc)) := s12.trans (SX.of (Same.new hrA))
    have k13 := k12.same (Same.new (o := .tup acc) hrA)
    have hrow13 : Row (upd H12 rA (.tup acc)) (.ref rA) row := ⟨rA, acc, rfl, upd_same, al_ts (Tk.new hrA) alr⟩
    have cfrow : Cf (Fd.six : ty i) 23 row := ⟨Fd.six_ne, Fd.z_mono (by decide) Fd.z_six, hzr⟩
    refine ⟨_, rfl, listed, rfl, ?_⟩
    refine asked_if (n := 12) (b := listed) ?_ hrow13 k13 (fun va H14 s14 hva => ?_)
    · rfl
    have k14 := k13.same s14
    show tSeq _ _ _ [some (.ref a), some (.ref st), some (.int (Fd.p (ty i))), some (.ref fo), some (.int (wd : Nat)), some (.ref ra), some (.bl listed), some (.ref D), some (.str d.shown), some (.int (lawRank rows : Nat)), some (.int ((redKept rows).length : Nat)), some (.bl (decide ((redKept rows).length = rows.length))), some (.ref rA), some (va), none, none, none, none, none, none, none, none, none] _
    have o14 := (s13.trans (SX.of s14)).off
    have hR11 : RwsT (off st gr H11) (.ref ra) rows := hR8.same o11
    have hR14 := hR11.same o14
    obtain ⟨ra', rvs', er14, hra14, _⟩ := id (hR14.same off_same)
    cases er14
    have arl14 : rvs'.length = rows.length := by
      obtain ⟨ra'', rvs'', e, h1, h2⟩ := hR14.same off_same
      cases e
      rw [hra14] at h1
      cases h1
      exact h2.len
    -- inside
    refine ⟨_, rfl, _, rfl, ra, rvs', rfl, .inl (SqL.of hra14), (rvs'.length : Int), rfl, by omega, by omega, fun D3 hD3 => ?_⟩
    refine lc_drw (walk_r0 (n := ((rvs'.length : Nat) : Int).toNat)) 4 (rep : Hp → V → ty i → Prop) (fun x => Fd.Z 5 (Fd.six * x)) (by omega) hD3 k14 rep_ts (fun _ _ => trivial) (fun j x H15 H15' hj s15 k15 y Nx kk => ?_) (fun H15 wvs ws s15 k15 hwvs alw hlw hzw => ?_)
    · obtain ⟨rfl, rfl⟩ := y
      refine ⟨rfl, ?_⟩
      exact ⟨_, rfl, _, rfl, i, st, gr, _, rfl, k15, by omega, fun v e H13 hz r6 s6 k6' => kk v e H13 hz r6 s6 (k6'.mono (by omega))⟩
    have cfws : Cf (Fd.six : ty i) 5 ws := ⟨Fd.six_ne, Fd.z_mono (by decide) Fd.z_six, hzw⟩
    have hlw' : ws.length = rows.length := by omega
    have hR15 := hR14.same s15.off
    have insum : SumOk ws rows wd := sum_ok cfws cfR hE zE (by omega)
    refine ⟨_, rfl, _, rfl, i, .ref D3, .ref ra, ws, rows, wd, rfl, ⟨D3, wvs, rfl, .inl hwvs, alw⟩, (hR15.same off_same).s.g, hlw', by omega, by omega, hwR, insum, fun vin H16 s16 rin => ?_⟩
    have k16 := k15.same s16
    show tSeq _ _ _ [some (.ref a), some (.ref st), some (.int (Fd.p (ty i))), some (.ref fo), some (.int (wd : Nat)), some (.ref ra), some (.bl listed), some (.ref D), some (.str d.shown), some (.int (lawRank rows : Nat)), some (.int ((redKept rows).length : Nat)), some (.bl (decide ((redKept rows).length = rows.length))), some (.ref rA), some (va), some (vin), none, none, none, none, none, none, none, none] _
    have o16 := (SX.of (st := st) (gr := gr) s16).off
    have hR16 := hR15.same o16
    have cfin : Cf (Fd.six * pw (ty i) m) 64 (lawSum ws rows wd) := (sumTo_cf cfws cfR hE zE rows.length (Nat.le_refl _)).mono (by omega)
    -- due
    obtain ⟨ra3, rvs3, er16, hra16, ar16⟩ := id (hR16.same off_same)
    cases er16
    have tk13_16 : Tk (upd H12 rA (.tup acc)) H16 := (Tk.of s14).trans ((s15.tk k14).trans (Tk.of s16))
    refine ⟨_, rfl, _, rfl, _, rfl, (by show 1 ≤ sizeLine; decide), fun L1 hL1 => ?_⟩
    have nraL : ra ≠ L1 := ne_of_none hra16 hL1
    refine ⟨ra, L1, rvs3, [.ref rA], rfl, rfl, by rw [upd_ne nraL]; exact hra16, upd_same, Nat.le_trans (show rvs3.length + 1 ≤ 1000 by have := ar16.len; omega) (by decide), fun L2 hL2 => ?_⟩
    have sL : Same H16 (upd (upd H16 L1 (.lst [.ref rA])) L2 (.lst (rvs3 ++ [.ref rA]))) := (Same.new hL1).trans (Same.new hL2)
    have hrow16 : Row (upd (upd H16 L1 (.lst [.ref rA])) L2 (.lst (rvs3 ++ [.ref rA]))) (.ref rA) row := (hrow13.ts tk13_16).ts (Tk.of sL)
    have hw2 : ∀ r ∈ rows ++ [row], r.length = wd := fun r hr => by
      rcases List.mem_append.mp hr with h | h
      · exact hwR r h
      · rw [List.mem_singleton.mp h]; exact hlr'
    have lb2 : LB 53 (rows ++ [row]) := fun r hr => by
      rcases List.mem_append.mp hr with h | h
      · exact lbR r h
      · rw [List.mem_singleton.mp h]; exact ⟨_, cfrow.mono (by decide)⟩
    refine ⟨i, .ref L2, rows ++ [row], wd, 53, rfl, ⟨L2, _, rfl, upd_same, Al.snoc (ar16.mono fun _ _ r => (r.ts (Tk.of sL)).s) hrow16.s⟩, hw2, hwd6, by rw [List.length_append]; show rows.length + 1 ≤ 1000; omega, by decide, lb2, fun H17 s17 => ⟨_, rfl, eq_gen rfl fun due hdue => ?_⟩⟩
    have s16_17 := sL.trans s17
    show tSeq _ _ _ [some (.ref a), some (.ref st), some (.int (Fd.p (ty i))), some (.ref fo), some (.int (wd : Nat)), some (.ref ra), some (.bl listed), some (.ref D), some (.str d.shown), some (.int (lawRank rows : Nat)), some (.int ((redKept rows).length : Nat)), some (.bl (decide ((redKept rows).length = rows.length))), some (.ref rA), some (va), some (vin), some (.bl due), none, none, none, none, none, none, none] _
    have due_iff : due = true ↔ M26.Sp (rows.map fn) (fn row) := by
      rw [← redKept_snoc_len hwR hlr', ← hdue, decide_eq_true_iff]
      exact ⟨fun z => by injection z with z; omega, fun z => by rw [z]⟩
    have k17 := k16.same s16_17
    have o16_17 := (SX.of (st := st) (gr := gr) s16_17).off
    have o11_17 := (o14.trans (s15.off.trans (o16.trans o16_17)))
    have hF17 : FO (ty i) (cl i) (off st gr H17) fo := (hF8.same o11).same o11_17
    have hH17 : Rws (off st gr H17) (.ref D) rows := (hHo.same o11).same o11_17
    have hR17 : RwsT (off st gr H17) (.ref ra) rows := hR16.same o16_17
    have hva17 : RowS (off st gr H17) va row := hva.same (s15.off.trans (o16.trans o16_17))
    have hin17 : RowS (off st gr H17) vin (lawSum ws rows wd) := ((rin.ts (Tk.of s16_17)).offS k17).s
    -- weights
    refine ⟨_, rfl, _, rfl, _, rfl, _, rfl, _, rfl, i, fo, .ref D, va, rows, row, wd, 53, 64, due, Fd.six, pw (ty i) m, rfl, hF17.same off_same, hH17.same off_same, hva17.same off_same, redR, hlr', cfrow.mono (by decide), by decide, by decide, hE, zE, cfR, due_iff, fun H18 s18 => ⟨_, rfl, iteF ?_⟩⟩
    have o18 := (SX.of (st := st) (gr := gr) s18).off
    show tSeq _ _ _ [some (.ref a), some (.ref st), some (.int (Fd.p (ty i))), some (.ref fo), some (.int (wd : Nat)), some (.ref ra), some (.bl listed), some (.ref D), some (.str d.shown), some (.int (lawRank rows : Nat)), some (.int ((redKept rows).length : Nat)), some (.bl (decide ((redKept rows).length = rows.length))), some (.ref rA), some (va), some (vin), some (.bl due), none, none, none, none, none, none, none] _
    have k18 := k17.same s18
    refine ⟨_, rfl, _, rfl, _, rfl, _, rfl, i, fo, .ref D, vin, rows, lawSum ws rows wd, wd, 53, 64, true, Fd.six * pw (ty i) m, pw (ty i) m, rfl, (hF17.same o18).same off_same, (hH17.same o18).same off_same, (hin17.same o18).same off_same, redR, lawSum_len, cfin, by decide, by decide, hE, zE, cfR, ⟨fun _ => lsum_in hwR, fun _ => rfl⟩, fun H19 s19 => ⟨_, rfl, iteF ?_⟩⟩
    have o19 := (SX.of (st := st) (gr := gr) (s18.trans s19)).off
    have k19 := k18.same s19
    have hR19 := hR17.same o19
    have hF19 := hF17.same o19
    have same8_19 : Same (off st gr H8) H19 := fun b u e => off_same _ _ (o19 _ _ (o11_17 _ _ (o11 _ _ e)))
    refine ⟨_, rfl, D, d, rfl, dk _ same8_19, dok, _, rfl, rfl, _, rfl, ?_⟩
    refine iteN (decide_eq_true (rfl : V.str d.shown = V.str d.shown)) ?_
    show tSeq _ _ _ [some (.ref a), some (.ref st), some (.int (Fd.p (ty i))), some (.ref fo), some (.int (wd : Nat)), some (.ref ra), some (.bl listed), some (.ref D), some (.str d.shown), some (.int (lawRank rows : Nat)), some (.int ((redKept rows).length : Nat)), some (.bl (decide ((redKept rows).length = rows.length))), some (.ref rA), some (va), some (vin), some (.bl due), none, none, none, none, none, none, none] _
    -- products
    obtain ⟨ra4, rvs4, er19, hra19, ar19⟩ := id (hR19.same off_same)
    cases er19
    refine ⟨_, rfl, _, .inl ⟨rvs4, SqL.of hra19, rfl⟩, ?_⟩
    refine ite2 (fun hne => ?_) (fun _ => ?_)
    · have rne : rows ≠ [] := fun z => by
        have := ar19.nil_iff.mpr z
        rw [this] at hne
        exact absurd hne (by decide)
      have a19l := ar19.len
      have rpos : 1 ≤ rows.length := List.length_pos_iff.mpr rne
      have k19' := k19
      refine ⟨_, rfl, _, rfl, _, rfl, st, gr, _, 4, rfl, k19, by decide, by decide, by omega, fun r H20 hr s20 k20 => add_nat (a := 1) (b := r) rfl rfl fun m2 hm2 => ?_⟩
      have hR20 := hR19.same s20.off
      have hra20 : H20 ra = some (.lst rvs4) := s20 _ _ (off_ne hra0).1 (off_ne hra0).2 hra19
      refine ⟨_, rfl, ra, rvs4, rfl, .inl (SqL.of hra20), i, st, gr, _, m2, rvs4.length, rfl, k20, by omega, by omega, by omega, fun vl left H21 hllen hleft s21 k21 hL21 => ?_⟩
      obtain ⟨la, lvs, rfl, hla0, al0⟩ := id hL21
      show tSeq _ _ _ [some (.ref a), some (.ref st), some (.int (Fd.p (ty i))), some (.ref fo), some (.int (wd : Nat)), some (.ref ra), some (.bl listed), some (.ref D), some (.str d.shown), some (.int (lawRank rows : Nat)), some (.int ((redKept rows).length : Nat)), some (.bl (decide ((redKept rows).length = rows.length))), some (.ref rA), some (va), some (vin), some (.bl due), some (.ref la), none, none, none, none, none, none] _
      have hla : H21 la = some (.lst lvs) := off_same _ _ hla0
      have al : Al (Row H21) lvs left := al0.mono fun _ _ r => r.ts (Tk.of off_same)
      have all := al.len
      have o21 := (s20.trans s21).off
      have hR21 := hR19.same o21
      have hF21 := hF19.same o21
      obtain ⟨qa, qvs, eq21, hq21, arq⟩ := id (hR21.same off_same)
      cases eq21
      have cfL : ∀ q ∈ left, Cf (pw (ty i) m2) 41 q := fun q hq => (hleft q hq).2.mono (by omega)
      have sumL : ∀ q ∈ left, SumOk q rows wd := fun q hq => sum_ok (cfL q hq) cfR hE zE (by omega)
      have lenL : ∀ q ∈ left, q.length = rows.length := fun q hq => by rw [(hleft q hq).1]; exact a19l
      refine ⟨_, rfl, la, rfl, ⟨_, SqL.of hla⟩, fun D4 hD4 => ?_⟩
      refine lc_dat (walk_list (xs := lvs)) (left.map fun q => lawSum q rows wd) Row (by rw [List.length_map]; exact all) (by omega) hD4 row_m1 row_m2 (fun H1 s => SqL.of (s _ _ hla)) (fun j x H22 H22' e hj he s22 _ y Nx kk => ?_) (fun H22 acc4 s22 hacc4 al4 => ?_)
      · obtain ⟨rfl, hx⟩ := y
        obtain ⟨L1, hL1, rL⟩ := al.get hx
        have eq : e = lawSum L1 rows wd := by
          rw [List.getElem?_map, hL1] at he
          exact (Option.some.inj he).symm
        have hm := List.mem_of_getElem? hL1
        refine ⟨rfl, ?_⟩
        exact ⟨_, rfl, _, rfl, _, rfl, _, rfl, i, x, .ref ra, L1, rows, wd, rfl, (rL.ts (Tk.of s22)).s, ((hR21.same off_same).same s22).s.g, lenL L1 hm, by omega, by omega, hwR, sumL L1 hm, fun v3 H3 s3 r3 => kk v3 H3 (by rw [eq]; exact r3) s3⟩
      refine ⟨D4, acc4, rfl, .inl ⟨SqL.of hacc4, fun pa hpa => ?_⟩⟩
      show tSeq _ _ _ [some (.ref a), some (.ref st), some (.int (Fd.p (ty i))), some (.ref fo), some (.int (wd : Nat)), some (.ref ra), some (.bl listed), some (.ref D), some (.str d.shown), some (.int (lawRank rows : Nat)), some (.int ((redKept rows).length : Nat)), some (.bl (decide ((redKept rows).length = rows.length))), some (.ref rA), some (va), some (vin), some (.bl due), some (.ref la), some (.ref pa), none, none, none, none, none] _
      have sP : Same H21 (upd H22 pa (.tup acc4)) := s22.trans (Same.new hpa)
      have hprod : RwsU (upd H22 pa (.tup acc4)) (.ref pa) (left.map fun q => lawSum q rows wd) := ⟨pa, acc4, rfl, upd_same, al4.mono fun _ _ r => r.ts (Tk.new hpa)⟩
      have k23 := k21.same sP
      have o23 := (SX.of (st := st) (gr := gr) sP).off
      obtain ⟨wa, wvs5, ew5, hw5, arw⟩ := id ((hR21.same off_same).same sP)
      cases ew5
      have arwl := arw.len
      refine ⟨_, rfl, _, rfl, _, rfl, ra, rfl, ⟨_, SqL.of hw5⟩, fun D5 hD5 => ?_⟩
      refine lc_dat (walk_list (xs := wvs5)) rows (RowL D5) arwl (by omega) hD5 RowL.same RowL.mut (fun H1 s => SqL.of (s _ _ hw5)) (fun j x H24 H24' e hj he s24 hac y Nx kk => ?_) (fun H24 acc5 s24 hacc5 al5 => ?_)
      · obtain ⟨acc, hacc⟩ := hac
        obtain ⟨rfl, hx⟩ := y
        obtain ⟨R1, hR1, rR⟩ := arw.get hx
        obtain ⟨ta, tvs, rfl, hta, aa⟩ := rR.ts (Tk.of s24)
        rw [hR1] at he
        cases he
        refine ⟨rfl, ?_⟩
        exact ⟨_, rfl, ta, tvs, rfl, .inr (SqT.of hta), fun l hl => kk _ _ ⟨l, tvs, rfl, Ne.symm (ne_of_none hacc hl), upd_same, al_ts (Tk.new hl) aa⟩ (Same.new hl)⟩
      have hLT : RwsT H24 (.ref la) left := ⟨la, lvs, rfl, s24 _ _ (sP _ _ hla), al.mono fun _ _ r => r.ts (Tk.of (sP.trans s24))⟩
      refine ⟨i, fo, .ref la, .ref D5, left, rows, wd, rfl, ((hF21.same o23).same off_same).same s24, hLT, ⟨D5, acc5, rfl, hacc5, al5.mono fun _ _ r => r.s⟩, rne, by omega, by omega, hwR, fun q hq => ⟨lenL q hq, sumL q hq⟩, fun vt H25 s25 hvt => ?_⟩
      have s23_25 := s24.trans s25
      refine ⟨_, rfl, _, rfl, _, rfl, la, lvs, rfl, .inl (SqL.of (s23_25 _ _ (sP _ _ hla))), _, rfl, i, vt, left.map fun q => lawSum q rows wd, lvs.length, wd, rfl, hvt, by rw [List.length_map]; exact all.symm, fun q hq => ?_, _, rfl, iteF ?_⟩
      · obtain ⟨q', _, rfl⟩ := List.mem_map.mp hq
        exact lawSum_len
      refine ⟨_, rfl, _, rfl, rowsD (left.map fun q => lawSum q rows wd), rowsD (left.map fun q => lawSum q rows wd), hvt.dp, (hprod.ts (Tk.of s23_25)).dp, (rowsD_nice _).shaped (by decide), (rowsD_nice _).shaped (by decide), _, rfl, iteN (rowsD_nice _).refl ?_⟩
      exact fin _ _ _ _ _ _ _ _ _ _ _ _ _ _ _ _ _ _ _ _ H25 _ (by omega) (k23.same s23_25) ((hF21.same o23).same (SX.of s23_25).off)
    · exact fin _ _ _ _ _ _ _ _ _ _ _ _ _ _ _ _ _ _ _ _ H19 _ (by omega) k19 hF19
end
end W26

end

/-! ## WAll -/
section
set_option Elab.async false
set_option linter.all false
set_option maxRecDepth 100000
set_option maxHeartbeats 8000000
/-! All promises. -/
namespace W26
open PySem L2 M26
open Rp
open L2H (FnH)
inductive Ix where
  | p3
  | p5
  | p7
  | q
  | p2
  | p11
  | p101
  | p9973
def ty : Ix → Type
  | .p3 => Fin 3
  | .p5 => Fin 5
  | .p7 => Fin 7
  | .q => Rat
  | .p2 => Fin 2
  | .p11 => Fin 11
  | .p101 => Fin 101
  | .p9973 => Fin 9973
instance rpTy : ∀ i, Rp (ty i)
  | .p3 => (finRp : Rp (Fin 3))
  | .p5 => (finRp : Rp (Fin 5))
  | .p7 => (finRp : Rp (Fin 7))
  | .q => (ratRp : Rp Rat)
  | .p2 => (finRp : Rp (Fin 2))
  | .p11 => (finRp : Rp (Fin 11))
  | .p101 => (finRp : Rp (Fin 101))
  | .p9973 => (finRp : Rp (Fin 9973))
instance shpTy : ∀ i, Shp (ty i)
  | .p3 => (finShp : Shp (Fin 3))
  | .p5 => (finShp : Shp (Fin 5))
  | .p7 => (finShp : Shp (Fin 7))
  | .q => (ratShp : Shp Rat)
  | .p2 => (finShp : Shp (Fin 2))
  | .p11 => (finShp : Shp (Fin 11))
  | .p101 => (finShp : Shp (Fin 101))
  | .p9973 => (finShp : Shp (Fin 9973))
def cl (CR CF : Addr) : Ix → Addr
  | .q => CF
  | _ => CR
theorem ty_primes : ∀ p ∈ primes, ∃ i, Fd.p (ty i) = p := by
  intro p hp
  have h : p = 3 ∨ p = 5 ∨ p = 7 ∨ p = 0 ∨ p = 2 ∨ p = 11 ∨ p = 101 ∨ p = 9973 := by simpa [primes] using hp
  rcases h with rfl | rfl | rfl | rfl | rfl | rfl | rfl | rfl
  · exact ⟨.p3, rfl⟩
  · exact ⟨.p5, rfl⟩
  · exact ⟨.p7, rfl⟩
  · exact ⟨.q, rfl⟩
  · exact ⟨.p2, rfl⟩
  · exact ⟨.p11, rfl⟩
  · exact ⟨.p101, rfl⟩
  · exact ⟨.p9973, rfl⟩
/-- a def of the text -/
def HasF (K : PySem.W.Frag) (mg : Str → Option Value) (x : Str) (st : Stmt) (ps : List Str) : Prop := ∃ (f : Addr) (fd : FuncData), mg x = some (.ref f) ∧ Fun K x x st f fd ∧ Binds K fd ps []
def HasA (K : PySem.W.Frag) (mg : Str → Option Value) (x : Str) (st : Stmt) (ps : List Str) : Prop := ∃ (f : Addr) (fd : FuncData), mg x = some (.ref f) ∧ FunA K x x st f fd ∧ Binds K fd ps []
def HasM (K : PySem.W.Frag) (C : Addr) (m qual : Str) (st : Stmt) (ps : List Str) : Prop := ∃ (f : Addr) (fd : FuncData), Meth K C m f ∧ Fun K m qual st f fd ∧ Binds K fd ps []
def HasI (K : PySem.W.Frag) (mg : Str → Option Value) (x : Str) (C : Addr) (qual : Str) (st : Stmt) (ps : List Str) : Prop := ∃ (f : Addr) (fd : FuncData), mg x = some (.ref C) ∧ Mk K C f ∧ Fun K "__init__" qual st f fd ∧ Binds K fd ps []
section
variable {P : Program} {w : World} {K : PySem.W.Frag} {mg : Str → Option Value} {base : Heap}
theorem HasF.dfn {x : Str} {st : Stmt} {ps : List Str} {k : Nat} {sp : Sp} (h : HasF K mg x st ps) (ok : ∀ {f fd}, Fun K x x st f fd → FnOk P w K mg base CX0 k f fd ps sp) : Dfn P w K mg base CX0 k x ps sp := by
  obtain ⟨f, fd, h1, F, b⟩ := h
  exact ⟨f, fd, h1, F.kp, b, ok F⟩
theorem HasF.dfnH {x : Str} {st : Stmt} {ps : List Str} {k : Nat} {sp : Sp} (h : HasF K mg x st ps) (ok : ∀ {f fd}, Fun K x x st f fd → FnH P w K mg base CX0 k f fd ps sp) : DfnH P w K mg base k x ps sp := by
  obtain ⟨f, fd, h1, F, b⟩ := h
  exact ⟨f, fd, h1, F.kp, b, ok F⟩
theorem HasF.any {ι : Type} {x : Str} {st : Stmt} {ps : List Str} {k : Nat} {sp : ι → Sp} (h : HasF K mg x st ps) (ok : ∀ i {f fd}, Fun K x x st f fd → FnOk P w K mg base CX0 k f fd ps (sp i)) : Dfn P w K mg base CX0 k x ps (anySp sp) :=
  h.dfn fun F => FnOk.any fun i => ok i F
theorem HasA.dfn {x : Str} {st : Stmt} {ps : List Str} {k : Nat} {sp : Sp} (h : HasA K mg x st ps) (ok : ∀ {f fd}, FunA K x x st f fd → FnOk P w K mg base CX0 k f fd ps sp) : Dfn P w K mg base CX0 k x ps sp := by
  obtain ⟨f, fd, h1, F, b⟩ := h
  exact ⟨f, fd, h1, F.kp, b, ok F⟩
theorem HasM.mtd {C : Addr} {m qual : Str} {st : Stmt} {ps : List Str} {k : Nat} {sp : Sp} (h : HasM K C m qual st ps) (ok : ∀ {f fd}, Fun K m qual st f fd → FnOk P w K mg base CX0 k f fd ps sp) : Mtd P w K mg base CX0 k C m ps sp := by
  obtain ⟨f, fd, h1, F, b⟩ := h
  exact ⟨f, fd, h1, b, ok F⟩
theorem HasI.mkr {C : Addr} {x qual : Str} {st : Stmt} {ps : List Str} {k : Nat} {sp : Sp} (h : HasI K mg x C qual st ps) (ok : ∀ {f fd}, Fun K "__init__" qual st f fd → FnOk P w K mg base CX0 k f fd ps sp) : Mkr P w K mg base CX0 k x C ps sp := by
  obtain ⟨f, fd, h1, M, F, b⟩ := h
  exact ⟨f, fd, h1, M, b, ok F⟩
end
/-- all that is asked of the text -/
structure AllF (K : PySem.W.Frag) (mg : Str → Option Value) (CR CF NC SE : Addr) : Prop where
  h_common_divisor : HasF K mg "common_divisor" s_common_divisor ["one", "other"]
  h_lowest_terms : HasF K mg "lowest_terms" s_lowest_terms ["top", "bottom"]
  h_is_prime : HasF K mg "is_prime" s_is_prime ["number"]
  h_rest_power : HasF K mg "rest_power" s_rest_power ["number", "exponent", "prime"]
  h_row_plus : HasF K mg "row_plus" s_row_plus ["field", "row", "weight", "other"]
  h_row_times : HasF K mg "row_times" s_row_times ["field", "row", "weight"]
  h_field_units : HasF K mg "field_units" s_field_units ["field", "width"]
  h_zero_row : HasF K mg "zero_row" s_zero_row ["field", "width"]
  h_lead_of : HasF K mg "lead_of" s_lead_of ["field", "row"]
  h_reduced_rows : HasF K mg "reduced_rows" s_reduced_rows ["field", "rows"]
  h_rank_of_rows : HasF K mg "rank_of_rows" s_rank_of_rows ["field", "rows"]
  h_rows_unbound : HasF K mg "rows_unbound" s_rows_unbound ["field", "rows"]
  h_weights_for : HasF K mg "weights_for" s_weights_for ["field", "rows", "row"]
  h_weighted_sum : HasF K mg "weighted_sum" s_weighted_sum ["field", "weights", "rows", "width"]
  h_rows_product : HasF K mg "rows_product" s_rows_product ["field", "rows", "others"]
  h_undoing_rows : HasF K mg "undoing_rows" s_undoing_rows ["field", "rows"]
  h_l_start : HasF K mg "_law_start" s_l_start ["_law_script"]
  h_l_draw : HasF K mg "_law_draw" s_l_draw ["_law_state", "_law_many"]
  h_l_whole : HasF K mg "_law_whole" s_l_whole ["_law_thing"]
  h_l_gcd : HasF K mg "_law_gcd" s_l_gcd ["_law_one", "_law_other"]
  h_l_low : HasF K mg "_law_low" s_l_low ["_law_top", "_law_bottom"]
  h_l_some : HasF K mg "_law_some" s_l_some ["_law_p", "_law_number_here"]
  h_l_plus : HasF K mg "_law_plus" s_l_plus ["_law_p", "_law_one", "_law_other"]
  h_l_times : HasF K mg "_law_times" s_l_times ["_law_p", "_law_one", "_law_other"]
  h_l_minus : HasF K mg "_law_minus" s_l_minus ["_law_p", "_law_one"]
  h_l_over : HasF K mg "_law_over" s_l_over ["_law_p", "_law_one", "_law_other"]
  h_l_nought : HasF K mg "_law_nought" s_l_nought ["_law_p", "_law_thing"]
  h_l_good : HasF K mg "_law_good" s_l_good ["_law_p", "_law_thing"]
  h_l_good_row : HasF K mg "_law_good_row" s_l_good_row ["_law_p", "_law_row", "_law_width"]
  h_l_good_rows : HasF K mg "_law_good_rows" s_l_good_rows ["_law_p", "_law_rows_here", "_law_many", "_law_width"]
  h_l_sum : HasF K mg "_law_sum" s_l_sum ["_law_p", "_law_weights", "_law_rows_here", "_law_width"]
  h_l_rank : HasF K mg "_law_rank" s_l_rank ["_law_p", "_law_rows_here"]
  h_l_prime : HasF K mg "_law_prime" s_l_prime ["_law_state"]
  h_l_field : HasF K mg "_law_field" s_l_field ["_law_p"]
  h_l_tiny : HasF K mg "_law_tiny" s_l_tiny ["_law_state", "_law_p"]
  h_l_number : HasF K mg "_law_number" s_l_number ["_law_state", "_law_p"]
  h_l_rows : HasF K mg "_law_rows" s_l_rows ["_law_state", "_law_p", "_law_many", "_law_width"]
  h_l_right_weights : HasF K mg "_law_right_weights" s_l_right_weights ["_law_p", "_law_field_here", "_law_rows_here", "_law_row", "_law_due"]
  h_l_undone : HasF K mg "_law_undone" s_l_undone ["_law_p", "_law_field_here", "_law_rows_here"]
  h_is_whole : HasA K mg "is_whole" s_is_whole ["thing", "low", "high"]
  m_CR_plus : HasM K CR "plus" "RestField.plus" s_rp ["self", "one", "other"]
  m_CR_less : HasM K CR "less" "RestField.less" s_rl ["self", "one", "other"]
  m_CR_times : HasM K CR "times" "RestField.times" s_rt ["self", "one", "other"]
  m_CR_quotient : HasM K CR "quotient" "RestField.quotient" s_rq ["self", "one", "other"]
  m_CR_power : HasM K CR "power" "RestField.power" s_rw ["self", "number", "exponent"]
  m_CF_plus : HasM K CF "plus" "FractionField.plus" s_fp ["self", "one", "other"]
  m_CF_less : HasM K CF "less" "FractionField.less" s_fl ["self", "one", "other"]
  m_CF_times : HasM K CF "times" "FractionField.times" s_ft ["self", "one", "other"]
  m_CF_quotient : HasM K CF "quotient" "FractionField.quotient" s_fq ["self", "one", "other"]
  i_CR : HasI K mg "RestField" CR "RestField.__init__" s_ri ["self", "prime"]
  i_CF : HasI K mg "FractionField" CF "FractionField.__init__" s_fi ["self"]
  cR : Cls K CR
  cF : Cls K CF
  rp : NoAttr K CR "prime"
  rz : NoAttr K CR "zero"
  ro : NoAttr K CR "one"
  rm : NoAttr K CR "minus_one"
  fz : NoAttr K CF "zero"
  fo : NoAttr K CF "one"
  fm : NoAttr K CF "minus_one"
  blt : Blt mg
  most : ∃ u, mg "MOST_PRIME" = some u ∧ RelV (.int 20000) u
  err : ErrC K mg NC SE
  ex : OexC K NC
  sup : SupC K SE
  ini : ∃ (f : Addr) (fd : FuncData), PySem.W.findIn K (.ref NC) "__init__" = some (some (.ref f)) ∧ PySem.W.typeIn K (.ref f) = some (.type "function") ∧ Binds K fd ["self"] [] ∧ Fun K "__init__" "NotInvertible.__init__" s_NotInvertible___init__ f fd
theorem law_fn {P : Program} {w : World} {K : PySem.W.Frag} {mg : Str → Option Value} {base : Heap} {CR CF NC SE : Addr} (A : AllF K mg CR CF NC SE) {f : Addr} {fd : FuncData} (F : Fun K "law" "law" s_law f fd) :
    FnOkG P w K mg base 9 f fd ["_law_script"] (spLaw K) := by
  have T := A.blt
  obtain ⟨um, gM, rM⟩ := A.most
  have dGcd : Dfn P w K mg base CX0 1 "common_divisor" ["one", "other"] spGcd := A.h_common_divisor.dfn fun F => ok_common_divisor F T
  have dLow : Dfn P w K mg base CX0 2 "lowest_terms" ["top", "bottom"] spLow := A.h_lowest_terms.dfn fun F => ok_lowest_terms F T dGcd
  have dWhole : Dfn P w K mg base CX0 1 "is_whole" ["thing", "low", "high"] spWhole := A.h_is_whole.dfn fun F => ok_is_whole F T
  have dPrime : Dfn P w K mg base CX0 2 "is_prime" ["number"] spPrime := A.h_is_prime.dfn fun F => ok_is_prime F T gM rM dWhole
  have kitF : ∀ {p : Nat} [PrimeP p], FKit P w K mg base (Fin p) CR := fun {p} _ => by
    have dRest : Dfn P w K mg base CX0 1 "rest_power" ["number", "exponent", "prime"] (spRest p) := A.h_rest_power.dfn fun F => ok_rest_power F T
    have mPow : Mtd P w K mg base CX0 2 CR "power" ["self", "number", "exponent"] (spPow p CR) := A.m_CR_power.mtd fun F => ok_rpower F T A.cR A.rp dRest
    exact ⟨A.cR, A.rz, A.ro, A.m_CR_plus.mtd fun F => ok_rplus F T A.cR A.rp, A.m_CR_less.mtd fun F => ok_rless F T A.cR A.rp, A.m_CR_times.mtd fun F => ok_rtimes F T A.cR A.rp, A.m_CR_quotient.mtd fun F => ok_rquotient F T A.cR A.rp mPow⟩
  have kitQ : FKit P w K mg base Rat CF := ⟨A.cF, A.fz, A.fo, A.m_CF_plus.mtd fun F => ok_fplus F dLow, A.m_CF_less.mtd fun F => ok_fless F dLow, A.m_CF_times.mtd fun F => ok_ftimes F dLow, A.m_CF_quotient.mtd fun F => ok_fquotient F dLow⟩
  have kit : ∀ i, FKit P w K mg base (ty i) (cl CR CF i) := fun i => by
    cases i
    · exact kitF (p := 3)
    · exact kitF (p := 5)
    · exact kitF (p := 7)
    · exact kitQ
    · exact kitF (p := 2)
    · exact kitF (p := 11)
    · exact kitF (p := 101)
    · exact kitF (p := 9973)
  have kF : ∀ {p : Nat} [PrimeP p], Mkr P w K mg base CX0 3 "RestField" CR ["self", "prime"] (spInit (Fin p) CR [.int (p : Nat)]) := fun {p} _ => A.i_CR.mkr fun F => ok_rinit F T A.cR A.rp A.rz A.ro A.rm dPrime
  have kQ : Mkr P w K mg base CX0 3 "FractionField" CF ["self"] (spInit Rat CF []) := A.i_CF.mkr fun F => ok_finit F A.cF A.fz A.fo A.fm
  -- the program's rows
  have dPlus : ∀ i, Dfn P w K mg base CX0 4 "row_plus" ["field", "row", "weight", "other"] (spRowPlus (ty i) (cl CR CF i)) := fun i => A.h_row_plus.dfn fun F => ok_row_plus F T (kit i)
  have dTimes : ∀ i, Dfn P w K mg base CX0 4 "row_times" ["field", "row", "weight"] (spRowTimes (ty i) (cl CR CF i)) := fun i => A.h_row_times.dfn fun F => ok_row_times F T (kit i)
  have dZero : ∀ i, Dfn P w K mg base CX0 1 "zero_row" ["field", "width"] (spZero (ty i) (cl CR CF i)) := fun i => A.h_zero_row.dfn fun F => ok_zero_row F T (kit i)
  have dUnits : ∀ i, Dfn P w K mg base CX0 1 "field_units" ["field", "width"] (spUnits (ty i) (cl CR CF i)) := fun i => A.h_field_units.dfn fun F => ok_field_units F T (kit i)
  have dLead : ∀ i, Dfn P w K mg base CX0 1 "lead_of" ["field", "row"] (spLead (ty i) (cl CR CF i)) := fun i => A.h_lead_of.dfn fun F => ok_lead_of F T (kit i)
  have dRed : ∀ i, Dfn P w K mg base CX0 5 "reduced_rows" ["field", "rows"] (spRed (ty i) (cl CR CF i)) := fun i => A.h_reduced_rows.dfn fun F => ok_reduced_rows F T (kit i) (dPlus i) (dTimes i) (dUnits i) (dLead i)
  have dRank : ∀ i, Dfn P w K mg base CX0 6 "rank_of_rows" ["field", "rows"] (spRank (ty i) (cl CR CF i)) := fun i => A.h_rank_of_rows.dfn fun F => ok_rank_of_rows F T (dRed i)
  have dWts : ∀ i, Dfn P w K mg base CX0 6 "weights_for" ["field", "rows", "row"] (spWts (ty i) (cl CR CF i)) := fun i => A.h_weights_for.dfn fun F => ok_weights_for F T (kit i) (dPlus i) (dZero i) (dLead i) (dRed i)
  have dSum : ∀ i, Dfn P w K mg base CX0 5 "weighted_sum" ["field", "weights", "rows", "width"] (spSum (ty i) (cl CR CF i)) := fun i => A.h_weighted_sum.dfn fun F => ok_weighted_sum F T (dPlus i) (dZero i)
  have NI : NotI P w K mg base NC := by
    obtain ⟨f, fd, h1, h2, h3, F⟩ := A.ini
    exact ⟨A.err.gN, A.ex, f, fd, h1, h2, h3, ok_ni F A.err.gS A.sup⟩
  have dUndo : ∀ i, ∃ (fu : Addr) (fdu : FuncData), mg "undoing_rows" = some (.ref fu) ∧ PySem.W.keepIn K (.ref fu) = true ∧ Binds K fdu ["field", "rows"] [] ∧ FnOk P w K mg base (L2N.CX P w) 7 fu fdu ["field", "rows"] (spUndo (ty i) (cl CR CF i) NC) := fun i => by
    obtain ⟨f, fd, h1, F, b⟩ := A.h_undoing_rows
    exact ⟨f, fd, h1, F.kp, b, ok_undoing_rows F T NI (dUnits i) (dWts i)⟩
  -- the law's numbers
  have lGcd : Dfn P w K mg base CX0 1 "_law_gcd" ["_law_one", "_law_other"] spGcd := A.h_l_gcd.dfn fun F => ok_l_gcd F T
  have lLow : Dfn P w K mg base CX0 2 "_law_low" ["_law_top", "_law_bottom"] spLow := A.h_l_low.dfn fun F => ok_l_low F T lGcd
  have lWhole : Dfn P w K mg base CX0 1 "_law_whole" ["_law_thing"] spLWhole := A.h_l_whole.dfn fun F => ok_l_whole F T
  have lDraw : Dfn P w K mg base CX0 1 "_law_draw" ["_law_state", "_law_many"] spDraw := A.h_l_draw.dfn fun F => ok_l_draw F T
  have LF : ∀ {p : Nat} [PrimeP p], LKit P w K mg base (Fin p) := fun {p} _ => by
    have a1 : Dfn P w K mg base CX0 1 "_law_some" ["_law_p", "_law_number_here"] (spSome (Fin p)) := A.h_l_some.dfn fun F => ok_l_some_fin F T
    have a2 : Dfn P w K mg base CX0 3 "_law_times" ["_law_p", "_law_one", "_law_other"] (spL2 (Fin p) (fun x y => x * y) fun _ _ => True) := A.h_l_times.dfn fun F => ok_l_times_fin F T lLow
    exact ⟨a1, A.h_l_plus.dfn fun F => ok_l_plus_fin F T lLow, a2, A.h_l_minus.dfn fun F => ok_l_minus F a1 a2, A.h_l_over.dfn fun F => ok_l_over_fin F T lLow, A.h_l_nought.dfn fun F => ok_l_nought F a1, A.h_l_good.dfn fun F => ok_l_good_fin F T lGcd lWhole⟩
  have LQ : LKit P w K mg base Rat := by
    have a1 : Dfn P w K mg base CX0 1 "_law_some" ["_law_p", "_law_number_here"] (spSome Rat) := A.h_l_some.dfn fun F => ok_l_some_rat F T
    have a2 : Dfn P w K mg base CX0 3 "_law_times" ["_law_p", "_law_one", "_law_other"] (spL2 Rat (fun x y => x * y) fun _ _ => True) := A.h_l_times.dfn fun F => ok_l_times_rat F T lLow
    exact ⟨a1, A.h_l_plus.dfn fun F => ok_l_plus_rat F T lLow, a2, A.h_l_minus.dfn fun F => ok_l_minus F a1 a2, A.h_l_over.dfn fun F => ok_l_over_rat F T lLow, A.h_l_nought.dfn fun F => ok_l_nought F a1, A.h_l_good.dfn fun F => ok_l_good_rat F T lGcd lWhole⟩
  have L : ∀ i, LKit P w K mg base (ty i) := fun i => by
    cases i
    · exact LF (p := 3)
    · exact LF (p := 5)
    · exact LF (p := 7)
    · exact LQ
    · exact LF (p := 2)
    · exact LF (p := 11)
    · exact LF (p := 101)
    · exact LF (p := 9973)
  -- the same while an error is handled
  have gGcd : DfnH P w K mg base 1 "_law_gcd" ["_law_one", "_law_other"] spGcd := A.h_l_gcd.dfnH fun F => okH_l_gcd F T
  have gLow : DfnH P w K mg base 2 "_law_low" ["_law_top", "_law_bottom"] spLow := A.h_l_low.dfnH fun F => okH_l_low F T gGcd
  have HF : ∀ {p : Nat} [PrimeP p], LKitH P w K mg base (Fin p) := fun {p} _ => by
    have a1 : DfnH P w K mg base 1 "_law_some" ["_law_p", "_law_number_here"] (spSome (Fin p)) := A.h_l_some.dfnH fun F => okH_l_some_fin F T
    have a2 : DfnH P w K mg base 3 "_law_times" ["_law_p", "_law_one", "_law_other"] (spL2 (Fin p) (fun x y => x * y) fun _ _ => True) := A.h_l_times.dfnH fun F => okH_l_times_fin F T gLow
    exact ⟨a1, A.h_l_plus.dfnH fun F => okH_l_plus_fin F T gLow, a2, A.h_l_minus.dfnH fun F => okH_l_minus F a1 a2, A.h_l_over.dfnH fun F => okH_l_over_fin F T gLow, A.h_l_nought.dfnH fun F => okH_l_nought F a1⟩
  have HQ : LKitH P w K mg base Rat := by
    have a1 : DfnH P w K mg base 1 "_law_some" ["_law_p", "_law_number_here"] (spSome Rat) := A.h_l_some.dfnH fun F => okH_l_some_rat F T
    have a2 : DfnH P w K mg base 3 "_law_times" ["_law_p", "_law_one", "_law_other"] (spL2 Rat (fun x y => x * y) fun _ _ => True) := A.h_l_times.dfnH fun F => okH_l_times_rat F T gLow
    exact ⟨a1, A.h_l_plus.dfnH fun F => okH_l_plus_rat F T gLow, a2, A.h_l_minus.dfnH fun F => okH_l_minus F a1 a2, A.h_l_over.dfnH fun F => okH_l_over_rat F T gLow, A.h_l_nought.dfnH fun F => okH_l_nought F a1⟩
  have LH : ∀ i, LKitH P w K mg base (ty i) := fun i => by
    cases i
    · exact HF (p := 3)
    · exact HF (p := 5)
    · exact HF (p := 7)
    · exact HQ
    · exact HF (p := 2)
    · exact HF (p := 11)
    · exact HF (p := 101)
    · exact HF (p := 9973)
  have hRank : ∀ i, DfnH P w K mg base 5 "_law_rank" ["_law_p", "_law_rows_here"] (spLRank (ty i)) := fun i => A.h_l_rank.dfnH fun F => okH_l_rank F T (LH i)
  -- the law's rows
  have lGoodRow : ∀ i, Dfn P w K mg base CX0 3 "_law_good_row" ["_law_p", "_law_row", "_law_width"] (spGoodRow (ty i)) := fun i => A.h_l_good_row.dfn fun F => ok_l_good_row F T (L i).good
  have lGoodRows : ∀ i, Dfn P w K mg base CX0 4 "_law_good_rows" ["_law_p", "_law_rows_here", "_law_many", "_law_width"] (spGoodRows (ty i)) := fun i => A.h_l_good_rows.dfn fun F => ok_l_good_rows F T (lGoodRow i)
  have lSum : ∀ i, Dfn P w K mg base CX0 4 "_law_sum" ["_law_p", "_law_weights", "_law_rows_here", "_law_width"] (spLSum (ty i)) := fun i => A.h_l_sum.dfn fun F => ok_l_sum F T (L i)
  have lRank : ∀ i, Dfn P w K mg base CX0 5 "_law_rank" ["_law_p", "_law_rows_here"] (spLRank (ty i)) := fun i => A.h_l_rank.dfn fun F => ok_l_rank F T (L i)
  have nTiny : ∀ i {f fd}, Fun K "_law_tiny" "_law_tiny" s_l_tiny f fd → FnOk P w K mg base CX0 3 f fd ["_law_state", "_law_p"] (spNum (ty i) 5) := fun i f fd F => by
    cases i
    · exact ok_l_tiny_fin (p := 3) F lDraw lLow
    · exact ok_l_tiny_fin (p := 5) F lDraw lLow
    · exact ok_l_tiny_fin (p := 7) F lDraw lLow
    · exact ok_l_tiny_rat F lDraw lLow
    · exact ok_l_tiny_fin (p := 2) F lDraw lLow
    · exact ok_l_tiny_fin (p := 11) F lDraw lLow
    · exact ok_l_tiny_fin (p := 101) F lDraw lLow
    · exact ok_l_tiny_fin (p := 9973) F lDraw lLow
  have nNum : ∀ i {f fd}, Fun K "_law_number" "_law_number" s_l_number f fd → FnOk P w K mg base CX0 3 f fd ["_law_state", "_law_p"] (spNum (ty i) 23) := fun i f fd F => by
    cases i
    · exact ok_l_number_fin (p := 3) F lDraw lLow
    · exact ok_l_number_fin (p := 5) F lDraw lLow
    · exact ok_l_number_fin (p := 7) F lDraw lLow
    · exact ok_l_number_rat F lDraw lLow
    · exact ok_l_number_fin (p := 2) F lDraw lLow
    · exact ok_l_number_fin (p := 11) F lDraw lLow
    · exact ok_l_number_fin (p := 101) F lDraw lLow
    · exact ok_l_number_fin (p := 9973) F lDraw lLow
  have nField : ∀ i {f fd}, Fun K "_law_field" "_law_field" s_l_field f fd → FnOk P w K mg base CX0 5 f fd ["_law_p"] (spField (ty i) (cl CR CF i)) := fun i f fd F => by
    cases i
    · exact ok_l_field_fin (p := 3) F kF kQ
    · exact ok_l_field_fin (p := 5) F kF kQ
    · exact ok_l_field_fin (p := 7) F kF kQ
    · exact ok_l_field_rat (p := 2) F kF kQ
    · exact ok_l_field_fin (p := 2) F kF kQ
    · exact ok_l_field_fin (p := 11) F kF kQ
    · exact ok_l_field_fin (p := 101) F kF kQ
    · exact ok_l_field_fin (p := 9973) F kF kQ
  exact ok_law (ty := ty) (cl := cl CR CF) F T ty_primes (A.h_l_start.dfn fun F => ok_l_start F T) (A.h_l_prime.dfn fun F => ok_l_prime F lDraw) lDraw lWhole
    (A.h_l_field.any nField) (A.h_l_rows.any fun i _ _ F => ok_l_rows F T (L i) lDraw (A.h_l_tiny.dfn (nTiny i)) (A.h_l_number.dfn (nNum i)) (lSum i)) (A.h_l_rank.any fun i _ _ F => ok_l_rank F T (L i))
    (A.h_rank_of_rows.any fun i _ _ F => ok_rank_of_rows F T (dRed i)) (A.h_rows_unbound.any fun i _ _ F => ok_rows_unbound F T (dRank i)) (A.h_l_number.any nNum) (A.h_l_tiny.any nTiny) (A.h_l_sum.any fun i _ _ F => ok_l_sum F T (L i))
    (A.h_l_right_weights.any fun i _ _ F => ok_l_right F T (dWts i) (lGoodRow i) (lSum i)) (A.h_rows_product.any fun i _ _ F => ok_rows_product F T (dSum i)) (A.h_l_good_rows.any fun i _ _ F => ok_l_good_rows F T (lGoodRow i))
    (A.h_l_undone.any fun i _ _ F => ok_l_undone F T (L i) A.err (dUndo i) (lRank i) (hRank i) (lGoodRows i) (lSum i))
end W26

end

/-! ## WEnd -/
section
set_option Elab.async false
set_option linter.all false
set_option maxRecDepth 100000
set_option maxHeartbeats 8000000
/-! The end. -/
namespace W26
open PySem PySem.Spec PyProof.Rows L2
/-- the law is called: from its promise at the heap behind the top -/
theorem law_callG {P : Program} {w : World} {K : PySem.W.Frag} {mg mb : Str → Option Value} {k : Nat} {fa a : Addr} {fd : FuncData} {x : Str} {sp : L2.Sp} {s₁ : Shared} {vs : List Value} {ns : List Int}
    (KX : K.In s₁.heap) (hns : s₁.heap.Ns mainGlobals mg) (hb : s₁.heap.Ns builtinsNs mb) (hbb : ∀ x : Str, x ≠ "__name__" → mb x = bootBuiltins x) (hlim : s₁.heap.NoLimit) (hg : s₁.gens = #[])
    (ha : s₁.heap.get? a = some { cls := .type "list", data := .seq vs.toArray }) (hi : IntsAre vs ns) (hl : ns.length ≤ sizeLine) (hr : Room k callerA)
    (F : ∀ base : Heap, K.In base → base.Ns mainGlobals mg → FnOkG P w K mg base k fa fd [x] sp) (hbind : ∀ (s : Shared) (u : Value), BindsTo s fd ⟨[u], []⟩ [(x, u)])
    (hsp : ∀ H : Hp, SqL K H a (ns.map V.int) → sp [.ref a] H (fun v _ => v = .bl true) fun _ _ _ => False) :
    codeAny (model P w) callerA (.call (.ref fa) ⟨[.ref a], []⟩) (fun r s' => r = .ok (.ret (.bool true)) ∧ OldK s₁.heap s'.heap ∧ s'.os = s₁.os ∧ AllBare s'.gens) s₁ := by
  have rv := vals_ints hi
  have lenV := hi.length
  have core : ∀ H : Hp, Only H → SqL K H a (ns.map V.int) → HOk P w H s₁.heap → (∀ b, H b ≠ none → b = a) → (H a ≠ none → K.lookup a = none) →
      codeAny (model P w) callerA (.call (.ref fa) ⟨[.ref a], []⟩) (fun r s' => r = .ok (.ret (.bool true)) ∧ OldK s₁.heap s'.heap ∧ s'.os = s₁.os ∧ AllBare s'.gens) s₁ := by
    intro H hO hS hok hA hK
    have base_of : ∀ {b : Addr} {o : Obj}, s₁.heap.get? b = some o → H b = none → (hidT s₁.heap H).get? b = some o := fun e n => hidT_get e n
    have noA : ∀ {b : Addr} {o : Obj} {es : Array DictEntry} {ep : Nat}, s₁.heap.get? b = some o → o.data = .dict es ep → H b = none := fun {b o es ep} e d => by
      cases q : H b with
      | none => rfl
      | some u =>
        have e' : b = a := hA b (by rw [q]; simp)
        subst e'
        rw [ha] at e; cases e
        have d' : Data.seq vs.toArray _ = Data.dict es ep := d
        cases d'
    have nsK : ∀ {b : Addr} {m : Str → Option Value}, s₁.heap.Ns b m → (hidT s₁.heap H).Ns b m := fun {b m} ⟨o, es, ep, e, d, r⟩ => ⟨o, es, ep, base_of e (noA e d), d, r⟩
    have hKb : K.In (hidT s₁.heap H) := fun b o e => base_of (KX b o e) (by
      cases q : H b with
      | none => rfl
      | some u =>
        have e' : b = a := hA b (by rw [q]; simp)
        subst e'
        rw [hK (by rw [q]; simp)] at e; cases e)
    have hM : Mod K mg (hidT s₁.heap H) := ⟨hKb, nsK hns, ⟨mb, nsK hb, hbb⟩, let ⟨mc, h1, h2⟩ := hlim; ⟨mc, nsK h1, h2⟩⟩
    have e0 : Env0 P w K mg (hidT s₁.heap H) callerA [] s₁ H := ⟨rfl, hM, fun b o e => of_hidT e, Nat.le_of_eq (hidT_size _ _), trivial, fun b hb => absurd (show b ∈ ([] : List Addr) from hb) (by simp), hok, .of_eq hg⟩
    refine codeAny_mono ((F _ hKb (nsK hns)).run callerA [] s₁ H ⟨[.ref a], []⟩ [.ref a] [.ref a] _ _ rfl hr e0 (hbind s₁ (.ref a)) (.cons rfl .nil) (hsp H hS)) fun r s' h => ?_
    cases r with
    | error e => exact False.elim h
    | ok fl =>
      cases fl with
      | next => exact False.elim h
      | brk => exact False.elim h
      | cont => exact False.elim h
      | ret u =>
        obtain ⟨v, H', os, bare, un, hok', r', q⟩ := h
        have q' : v = .bl true := q
        subst q'
        obtain rfl : u = Value.bool true := r'
        refine ⟨rfl, OldK.of_keep fun b o e => ?_, os, bare⟩
        cases q : H b with
        | none => exact un.keep b o e q (by intro z; exact absurd (show b ∈ ([] : List Addr) from z) (by simp)) (by simp)
        | some u =>
          rcases hO b with z | ⟨ob, xs, z⟩
          · rw [q] at z; cases z
          · have z2 := un.frzs b ob _ z
            obtain ⟨e1, _⟩ := hok b _ z
            obtain ⟨e2, _⟩ := hok' b _ z2
            rw [e] at e1; cases e1
            exact e2
  cases hk : K.lookup a with
  | some o =>
    have e := KX a o hk
    rw [ha] at e
    cases e
    refine core (fun _ => none) (fun _ => .inl rfl) (.inr ⟨_, vs.toArray, _, hk, rfl, rfl, rfl, by rw [List.size_toArray, lenV]; exact hl, by simpa using rv⟩) (fun b u z => by have z' : (none : Option HO) = some u := z; cases z') (fun b z => absurd rfl z) fun z => absurd rfl z
  | none =>
    refine core (fun b => if b = a then some (.frz { cls := .type "list", data := .seq vs.toArray } (.lst (ns.map V.int))) else none) (fun b => ?_) (.inl (.inr ⟨{ cls := .type "list", data := .seq vs.toArray }, if_pos rfl⟩)) (fun b u z => ?_) (fun b z => ?_) fun _ => hk
    · by_cases hb : b = a
      · exact .inr ⟨_, _, if_pos hb⟩
      · exact .inl (if_neg hb)
    · by_cases hb : b = a
      · have z' := (if_pos hb).symm.trans z
        cases z'
        subst hb
        exact ⟨ha, by rw [List.length_map]; exact hl, vs, _, rv, ha⟩
      · have z' := (if_neg hb).symm.trans z
        cases z'
    · by_cases hb : b = a
      · exact hb
      · exact absurd (if_neg hb) z
theorem walkG {l : PySem.W.OpenLaw} {q : Program} {loose : List Str} {XP : (Str → Option Value) → Heap → Prop} {YP : World → Heap → Prop} {d : DefRec} {K : Params → PySem.W.Frag} (hn : l.most = some 63) (hdf : d.params.defaults = [])
    (hY : ∀ (w : World) (h : Heap), YP w h → (K w.params).In h)
    (F : ∀ (w : World) (mg : Str → Option Value) (fa : Addr) (h : Heap), (K w.params).In h → h.Ns mainGlobals mg → mg d.name = some (.ref fa) →
      ∃ fd : FuncData, (∀ (s : Shared) (u : Value), BindsTo s fd ⟨[u], []⟩ [("_law_script", u)]) ∧ ∀ base : Heap, (K w.params).In base → base.Ns mainGlobals mg → FnOkG l.prog w (K w.params) mg base 9 fa fd ["_law_script"] (spLaw (K w.params))) :
    PySem.W.WalkO q loose XP YP l.row.toRowW d [] (fun f vs => PySem.call f vs) := by
  refine Att.attach_call hn hdf fun w s₀ s₁ mg mb fa o pm cd doc a vs ns G Y ho hd hcd hmg hobj hints hlen hg => ?_
  have KX := hY w _ Y
  obtain ⟨fd, hb, hF⟩ := F w mg fa _ KX G.T.g hmg
  exact law_callG KX G.T.g G.T.b G.T.builtins G.T.nolimit hg hobj hints (Nat.le_trans hlen (by decide)) ⟨rfl, by decide, by decide⟩ hF hb fun H hS => ⟨a, ns, rfl, hS, by omega, fun _ => rfl⟩
theorem fun_some {K : PySem.W.Frag} {mg : Str → Option Value} {h : Heap} {x : Str} {st : Stmt} {ps : List Str} {f : Addr} {fd : FuncData} (X : K.In h) (G : h.Ns mainGlobals mg) (a : PySem.W.nsIn K mainGlobals x = some (some (.ref f))) (F : Fun K x x st f fd) (b : Binds K fd ps []) : HasF K mg x st ps :=
  ⟨f, fd, PySem.W.mg_of X G a, F, b⟩
theorem isw {K : PySem.W.Frag} {mg : Str → Option Value} {h : Heap} {fW TW : Addr} {odW anW odT : Option Addr} {slW slT : Array (Option Value)} {ocW kVW dcW pmW cdW ctW ocT : Value} {nT : Nat} (X : K.In h) (G : h.Ns mainGlobals mg)
    (aW : PySem.W.nsIn K mainGlobals "is_whole" = some (some (.ref fW))) (lW : K.lookup fW = some ⟨ocW, odW, .func (PySem.W.fnOf "is_whole" "is_whole" (defArgs s_is_whole) (defBody s_is_whole) (defScope s_is_whole) (.ref TW) kVW dcW pmW anW cdW ctW), slW⟩)
    (lT : K.lookup TW = some ⟨ocT, odT, .seq ([.none, .none] : List Value).toArray nT, slT⟩) (cW : PySem.W.codeIn K cdW "is_whole" = true) (kW : PySem.W.keepIn K (.ref fW) = true) : HasA K mg "is_whole" s_is_whole ["thing", "low", "high"] := by
  have F : FunD K "is_whole" "is_whole" (defArgs s_is_whole) (defBody s_is_whole) (defScope s_is_whole) [.non, .non] [] fW (PySem.W.fnOf "is_whole" "is_whole" (defArgs s_is_whole) (defBody s_is_whole) (defScope s_is_whole) (.ref TW) kVW dcW pmW anW cdW ctW) :=
    ⟨⟨_, _, _, _, _, _, _, _, _, _, rfl, lW, cW, .inr ⟨by simp, TW, _, [.none, .none], nT, rfl, lT, rfl, .cons rfl (.cons rfl .nil)⟩, .inl rfl⟩, kW⟩
  obtain ⟨ds, r, b⟩ := F.binds1 (ps := ["thing", "low", "high"]) 3 2 (by simp) rfl fun T kV doc pm an cdv ct us its h1 h2 => match us, its, h1, h2 with | [_, _, _], [_, _], _, _ => ⟨_, rfl, rfl⟩
  have e : ds = [] := by
    cases r
    rfl
  subst e
  exact ⟨fW, _, PySem.W.mg_of X G aW, ⟨⟨_, _, _, _, _, _, _, _, _, _, rfl, lW, cW⟩, kW⟩, b⟩
theorem all_mk {P : Program} {w : World} {K : PySem.W.Frag} {h : Heap} {mg : Str → Option Value} {fa : Addr} (X : K.In h) (G : h.Ns mainGlobals mg) (hfa : mg "law" = some (.ref fa))
    {CR CF NC SE fg0 fg1 fg2 fg3 fg4 fg5 fg6 fg7 fg8 fg9 fg10 fg11 fg12 fg13 fg14 fg15 fg16 fg17 fg18 fg19 fg20 fg21 fg22 fg23 fg24 fg25 fg26 fg27 fg28 fg29 fg30 fg31 fg32 fg33 fg34 fg35 fg36 fg37 fg38 fg39 fW TW fm0 fm1 fm2 fm3 fm4 fm5 fm6 fm7 fm8 fi0 fi1 fNI : Addr} {odg0 ang0 odg1 ang1 odg2 ang2 odg3 ang3 odg4 ang4 odg5 ang5 odg6 ang6 odg7 ang7 odg8 ang8 odg9 ang9 odg10 ang10 odg11 ang11 odg12 ang12 odg13 ang13 odg14 ang14 odg15 ang15 odg16 ang16 odg17 ang17 odg18 ang18 odg19 ang19 odg20 ang20 odg21 ang21 odg22 ang22 odg23 ang23 odg24 ang24 odg25 ang25 odg26 ang26 odg27 ang27 odg28 ang28 odg29 ang29 odg30 ang30 odg31 ang31 odg32 ang32 odg33 ang33 odg34 ang34 odg35 ang35 odg36 ang36 odg37 ang37 odg38 ang38 odg39 ang39 odW anW odT odm0 anm0 odm1 anm1 odm2 anm2 odm3 anm3 odm4 anm4 odm5 anm5 odm6 anm6 odm7 anm7 odm8 anm8 odi0 ani0 odi1 ani1 odNI anNI : Option Addr} {slg0 slg1 slg2 slg3 slg4 slg5 slg6 slg7 slg8 slg9 slg10 slg11 slg12 slg13 slg14 slg15 slg16 slg17 slg18 slg19 slg20 slg21 slg22 slg23 slg24 slg25 slg26 slg27 slg28 slg29 slg30 slg31 slg32 slg33 slg34 slg35 slg36 slg37 slg38 slg39 slW slT slm0 slm1 slm2 slm3 slm4 slm5 slm6 slm7 slm8 sli0 sli1 slNI : Array (Option Value)} {ocg0 kVg0 dcg0 pmg0 cdg0 ctg0 ocg1 kVg1 dcg1 pmg1 cdg1 ctg1 ocg2 kVg2 dcg2 pmg2 cdg2 ctg2 ocg3 kVg3 dcg3 pmg3 cdg3 ctg3 ocg4 kVg4 dcg4 pmg4 cdg4 ctg4 ocg5 kVg5 dcg5 pmg5 cdg5 ctg5 ocg6 kVg6 dcg6 pmg6 cdg6 ctg6 ocg7 kVg7 dcg7 pmg7 cdg7 ctg7 ocg8 kVg8 dcg8 pmg8 cdg8 ctg8 ocg9 kVg9 dcg9 pmg9 cdg9 ctg9 ocg10 kVg10 dcg10 pmg10 cdg10 ctg10 ocg11 kVg11 dcg11 pmg11 cdg11 ctg11 ocg12 kVg12 dcg12 pmg12 cdg12 ctg12 ocg13 kVg13 dcg13 pmg13 cdg13 ctg13 ocg14 kVg14 dcg14 pmg14 cdg14 ctg14 ocg15 kVg15 dcg15 pmg15 cdg15 ctg15 ocg16 kVg16 dcg16 pmg16 cdg16 ctg16 ocg17 kVg17 dcg17 pmg17 cdg17 ctg17 ocg18 kVg18 dcg18 pmg18 cdg18 ctg18 ocg19 kVg19 dcg19 pmg19 cdg19 ctg19 ocg20 kVg20 dcg20 pmg20 cdg20 ctg20 ocg21 kVg21 dcg21 pmg21 cdg21 ctg21 ocg22 kVg22 dcg22 pmg22 cdg22 ctg22 ocg23 kVg23 dcg23 pmg23 cdg23 ctg23 ocg24 kVg24 dcg24 pmg24 cdg24 ctg24 ocg25 kVg25 dcg25 pmg25 cdg25 ctg25 ocg26 kVg26 dcg26 pmg26 cdg26 ctg26 ocg27 kVg27 dcg27 pmg27 cdg27 ctg27 ocg28 kVg28 dcg28 pmg28 cdg28 ctg28 ocg29 kVg29 dcg29 pmg29 cdg29 ctg29 ocg30 kVg30 dcg30 pmg30 cdg30 ctg30 ocg31 kVg31 dcg31 pmg31 cdg31 ctg31 ocg32 kVg32 dcg32 pmg32 cdg32 ctg32 ocg33 kVg33 dcg33 pmg33 cdg33 ctg33 ocg34 kVg34 dcg34 pmg34 cdg34 ctg34 ocg35 kVg35 dcg35 pmg35 cdg35 ctg35 ocg36 kVg36 dcg36 pmg36 cdg36 ctg36 ocg37 kVg37 dcg37 pmg37 cdg37 ctg37 ocg38 kVg38 dcg38 pmg38 cdg38 ctg38 ocg39 kVg39 dcg39 pmg39 cdg39 ctg39 ocW kVW dcW pmW cdW ctW ocT ocm0 kVm0 dcm0 pmm0 cdm0 ctm0 ocm1 kVm1 dcm1 pmm1 cdm1 ctm1 ocm2 kVm2 dcm2 pmm2 cdm2 ctm2 ocm3 kVm3 dcm3 pmm3 cdm3 ctm3 ocm4 kVm4 dcm4 pmm4 cdm4 ctm4 ocm5 kVm5 dcm5 pmm5 cdm5 ctm5 ocm6 kVm6 dcm6 pmm6 cdm6 ctm6 ocm7 kVm7 dcm7 pmm7 cdm7 ctm7 ocm8 kVm8 dcm8 pmm8 cdm8 ctm8 oci0 kVi0 dci0 pmi0 cdi0 cti0 oci1 kVi1 dci1 pmi1 cdi1 cti1 ocNI kVNI dcNI pmNI cdNI ctNI : Value} {tMP : Tok} {nT : Nat}
    {nm qn : Str} {N : Addr} {bs : List Value} {sn : List Str} {sub : List Value} {ab : Bool} {col : Option Bool} {dd : Option Addr} {m0 m1 m2 m3 m5 : Option Value}
    (aCR : PySem.W.nsIn K mainGlobals "RestField" = some (some (.ref CR)))
    (aCF : PySem.W.nsIn K mainGlobals "FractionField" = some (some (.ref CF)))
    (aNC : PySem.W.nsIn K mainGlobals "NotInvertible" = some (some (.ref NC)))
    (aSE : PySem.W.nsIn K mainGlobals "SheetError" = some (some (.ref SE)))
    (ag0 : PySem.W.nsIn K mainGlobals "common_divisor" = some (some (.ref fg0)))
    (lg0 : K.lookup fg0 = some ⟨ocg0, odg0, .func (PySem.W.fnOf "common_divisor" "common_divisor" (defArgs s_common_divisor) (defBody s_common_divisor) (defScope s_common_divisor) .none kVg0 dcg0 pmg0 ang0 cdg0 ctg0), slg0⟩)
    (cg0 : PySem.W.codeIn K cdg0 "common_divisor" = true) (kg0 : PySem.W.keepIn K (.ref fg0) = true)
    (ag1 : PySem.W.nsIn K mainGlobals "lowest_terms" = some (some (.ref fg1)))
    (lg1 : K.lookup fg1 = some ⟨ocg1, odg1, .func (PySem.W.fnOf "lowest_terms" "lowest_terms" (defArgs s_lowest_terms) (defBody s_lowest_terms) (defScope s_lowest_terms) .none kVg1 dcg1 pmg1 ang1 cdg1 ctg1), slg1⟩)
    (cg1 : PySem.W.codeIn K cdg1 "lowest_terms" = true) (kg1 : PySem.W.keepIn K (.ref fg1) = true)
    (ag2 : PySem.W.nsIn K mainGlobals "is_prime" = some (some (.ref fg2)))
    (lg2 : K.lookup fg2 = some ⟨ocg2, odg2, .func (PySem.W.fnOf "is_prime" "is_prime" (defArgs s_is_prime) (defBody s_is_prime) (defScope s_is_prime) .none kVg2 dcg2 pmg2 ang2 cdg2 ctg2), slg2⟩)
    (cg2 : PySem.W.codeIn K cdg2 "is_prime" = true) (kg2 : PySem.W.keepIn K (.ref fg2) = true)
    (ag3 : PySem.W.nsIn K mainGlobals "rest_power" = some (some (.ref fg3)))
    (lg3 : K.lookup fg3 = some ⟨ocg3, odg3, .func (PySem.W.fnOf "rest_power" "rest_power" (defArgs s_rest_power) (defBody s_rest_power) (defScope s_rest_power) .none kVg3 dcg3 pmg3 ang3 cdg3 ctg3), slg3⟩)
    (cg3 : PySem.W.codeIn K cdg3 "rest_power" = true) (kg3 : PySem.W.keepIn K (.ref fg3) = true)
    (ag4 : PySem.W.nsIn K mainGlobals "row_plus" = some (some (.ref fg4)))
    (lg4 : K.lookup fg4 = some ⟨ocg4, odg4, .func (PySem.W.fnOf "row_plus" "row_plus" (defArgs s_row_plus) (defBody s_row_plus) (defScope s_row_plus) .none kVg4 dcg4 pmg4 ang4 cdg4 ctg4), slg4⟩)
    (cg4 : PySem.W.codeIn K cdg4 "row_plus" = true) (kg4 : PySem.W.keepIn K (.ref fg4) = true)
    (ag5 : PySem.W.nsIn K mainGlobals "row_times" = some (some (.ref fg5)))
    (lg5 : K.lookup fg5 = some ⟨ocg5, odg5, .func (PySem.W.fnOf "row_times" "row_times" (defArgs s_row_times) (defBody s_row_times) (defScope s_row_times) .none kVg5 dcg5 pmg5 ang5 cdg5 ctg5), slg5⟩)
    (cg5 : PySem.W.codeIn K cdg5 "row_times" = true) (kg5 : PySem.W.keepIn K (.ref fg5) = true)
    (ag6 : PySem.W.nsIn K mainGlobals "field_units" = some (some (.ref fg6)))
    (lg6 : K.lookup fg6 = some ⟨ocg6, odg6, .func (PySem.W.fnOf "field_units" "field_units" (defArgs s_field_units) (defBody s_field_units) (defScope s_field_units) .none kVg6 dcg6 pmg6 ang6 cdg6 ctg6), slg6⟩)
    (cg6 : PySem.W.codeIn K cdg6 "field_units" = true) (kg6 : PySem.W.keepIn K (.ref fg6) = true)
    (ag7 : PySem.W.nsIn K mainGlobals "zero_row" = some (some (.ref fg7)))
    (lg7 : K.lookup fg7 = some ⟨ocg7, odg7, .func (PySem.W.fnOf "zero_row" "zero_row" (defArgs s_zero_row) (defBody s_zero_row) (defScope s_zero_row) .none kVg7 dcg7 pmg7 ang7 cdg7 ctg7), slg7⟩)
    (cg7 : PySem.W.codeIn K cdg7 "zero_row" = true) (kg7 : PySem.W.keepIn K (.ref fg7) = true)
    (ag8 : PySem.W.nsIn K mainGlobals "lead_of" = some (some (.ref fg8)))
    (lg8 : K.lookup fg8 = some ⟨ocg8, odg8, .func (PySem.W.fnOf "lead_of" "lead_of" (defArgs s_lead_of) (defBody s_lead_of) (defScope s_lead_of) .none kVg8 dcg8 pmg8 ang8 cdg8 ctg8), slg8⟩)
    (cg8 : PySem.W.codeIn K cdg8 "lead_of" = true) (kg8 : PySem.W.keepIn K (.ref fg8) = true)
    (ag9 : PySem.W.nsIn K mainGlobals "reduced_rows" = some (some (.ref fg9)))
    (lg9 : K.lookup fg9 = some ⟨ocg9, odg9, .func (PySem.W.fnOf "reduced_rows" "reduced_rows" (defArgs s_reduced_rows) (defBody s_reduced_rows) (defScope s_reduced_rows) .none kVg9 dcg9 pmg9 ang9 cdg9 ctg9), slg9⟩)
    (cg9 : PySem.W.codeIn K cdg9 "reduced_rows" = true) (kg9 : PySem.W.keepIn K (.ref fg9) = true)
    (ag10 : PySem.W.nsIn K mainGlobals "rank_of_rows" = some (some (.ref fg10)))
    (lg10 : K.lookup fg10 = some ⟨ocg10, odg10, .func (PySem.W.fnOf "rank_of_rows" "rank_of_rows" (defArgs s_rank_of_rows) (defBody s_rank_of_rows) (defScope s_rank_of_rows) .none kVg10 dcg10 pmg10 ang10 cdg10 ctg10), slg10⟩)
    (cg10 : PySem.W.codeIn K cdg10 "rank_of_rows" = true) (kg10 : PySem.W.keepIn K (.ref fg10) = true)
    (ag11 : PySem.W.nsIn K mainGlobals "rows_unbound" = some (some (.ref fg11)))
    (lg11 : K.lookup fg11 = some ⟨ocg11, odg11, .func (PySem.W.fnOf "rows_unbound" "rows_unbound" (defArgs s_rows_unbound) (defBody s_rows_unbound) (defScope s_rows_unbound) .none kVg11 dcg11 pmg11 ang11 cdg11 ctg11), slg11⟩)
    (cg11 : PySem.W.codeIn K cdg11 "rows_unbound" = true) (kg11 : PySem.W.keepIn K (.ref fg11) = true)
    (ag12 : PySem.W.nsIn K mainGlobals "weights_for" = some (some (.ref fg12)))
    (lg12 : K.lookup fg12 = some ⟨ocg12, odg12, .func (PySem.W.fnOf "weights_for" "weights_for" (defArgs s_weights_for) (defBody s_weights_for) (defScope s_weights_for) .none kVg12 dcg12 pmg12 ang12 cdg12 ctg12), slg12⟩)
    (cg12 : PySem.W.codeIn K cdg12 "weights_for" = true) (kg12 : PySem.W.keepIn K (.ref fg12) = true)
    (ag13 : PySem.W.nsIn K mainGlobals "weighted_sum" = some (some (.ref fg13)))
    (lg13 : K.lookup fg13 = some ⟨ocg13, odg13, .func (PySem.W.fnOf "weighted_sum" "weighted_sum" (defArgs s_weighted_sum) (defBody s_weighted_sum) (defScope s_weighted_sum) .none kVg13 dcg13 pmg13 ang13 cdg13 ctg13), slg13⟩)
    (cg13 : PySem.W.codeIn K cdg13 "weighted_sum" = true) (kg13 : PySem.W.keepIn K (.ref fg13) = true)
    (ag14 : PySem.W.nsIn K mainGlobals "rows_product" = some (some (.ref fg14)))
    (lg14 : K.lookup fg14 = some ⟨ocg14, odg14, .func (PySem.W.fnOf "rows_product" "rows_product" (defArgs s_rows_product) (defBody s_rows_product) (defScope s_rows_product) .none kVg14 dcg14 pmg14 ang14 cdg14 ctg14), slg14⟩)
    (cg14 : PySem.W.codeIn K cdg14 "rows_product" = true) (kg14 : PySem.W.keepIn K (.ref fg14) = true)
    (ag15 : PySem.W.nsIn K mainGlobals "undoing_rows" = some (some (.ref fg15)))
    (lg15 : K.lookup fg15 = some ⟨ocg15, odg15, .func (PySem.W.fnOf "undoing_rows" "undoing_rows" (defArgs s_undoing_rows) (defBody s_undoing_rows) (defScope s_undoing_rows) .none kVg15 dcg15 pmg15 ang15 cdg15 ctg15), slg15⟩)
    (cg15 : PySem.W.codeIn K cdg15 "undoing_rows" = true) (kg15 : PySem.W.keepIn K (.ref fg15) = true)
    (ag16 : PySem.W.nsIn K mainGlobals "_law_start" = some (some (.ref fg16)))
    (lg16 : K.lookup fg16 = some ⟨ocg16, odg16, .func (PySem.W.fnOf "_law_start" "_law_start" (defArgs s_l_start) (defBody s_l_start) (defScope s_l_start) .none kVg16 dcg16 pmg16 ang16 cdg16 ctg16), slg16⟩)
    (cg16 : PySem.W.codeIn K cdg16 "_law_start" = true) (kg16 : PySem.W.keepIn K (.ref fg16) = true)
    (ag17 : PySem.W.nsIn K mainGlobals "_law_draw" = some (some (.ref fg17)))
    (lg17 : K.lookup fg17 = some ⟨ocg17, odg17, .func (PySem.W.fnOf "_law_draw" "_law_draw" (defArgs s_l_draw) (defBody s_l_draw) (defScope s_l_draw) .none kVg17 dcg17 pmg17 ang17 cdg17 ctg17), slg17⟩)
    (cg17 : PySem.W.codeIn K cdg17 "_law_draw" = true) (kg17 : PySem.W.keepIn K (.ref fg17) = true)
    (ag18 : PySem.W.nsIn K mainGlobals "_law_whole" = some (some (.ref fg18)))
    (lg18 : K.lookup fg18 = some ⟨ocg18, odg18, .func (PySem.W.fnOf "_law_whole" "_law_whole" (defArgs s_l_whole) (defBody s_l_whole) (defScope s_l_whole) .none kVg18 dcg18 pmg18 ang18 cdg18 ctg18), slg18⟩)
    (cg18 : PySem.W.codeIn K cdg18 "_law_whole" = true) (kg18 : PySem.W.keepIn K (.ref fg18) = true)
    (ag19 : PySem.W.nsIn K mainGlobals "_law_gcd" = some (some (.ref fg19)))
    (lg19 : K.lookup fg19 = some ⟨ocg19, odg19, .func (PySem.W.fnOf "_law_gcd" "_law_gcd" (defArgs s_l_gcd) (defBody s_l_gcd) (defScope s_l_gcd) .none kVg19 dcg19 pmg19 ang19 cdg19 ctg19), slg19⟩)
    (cg19 : PySem.W.codeIn K cdg19 "_law_gcd" = true) (kg19 : PySem.W.keepIn K (.ref fg19) = true)
    (ag20 : PySem.W.nsIn K mainGlobals "_law_low" = some (some (.ref fg20)))
    (lg20 : K.lookup fg20 = some ⟨ocg20, odg20, .func (PySem.W.fnOf "_law_low" "_law_low" (defArgs s_l_low) (defBody s_l_low) (defScope s_l_low) .none kVg20 dcg20 pmg20 ang20 cdg20 ctg20), slg20⟩)
    (cg20 : PySem.W.codeIn K cdg20 "_law_low" = true) (kg20 : PySem.W.keepIn K (.ref fg20) = true)
    (ag21 : PySem.W.nsIn K mainGlobals "_law_some" = some (some (.ref fg21)))
    (lg21 : K.lookup fg21 = some ⟨ocg21, odg21, .func (PySem.W.fnOf "_law_some" "_law_some" (defArgs s_l_some) (defBody s_l_some) (defScope s_l_some) .none kVg21 dcg21 pmg21 ang21 cdg21 ctg21), slg21⟩)
    (cg21 : PySem.W.codeIn K cdg21 "_law_some" = true) (kg21 : PySem.W.keepIn K (.ref fg21) = true)
    (ag22 : PySem.W.nsIn K mainGlobals "_law_plus" = some (some (.ref fg22)))
    (lg22 : K.lookup fg22 = some ⟨ocg22, odg22, .func (PySem.W.fnOf "_law_plus" "_law_plus" (defArgs s_l_plus) (defBody s_l_plus) (defScope s_l_plus) .none kVg22 dcg22 pmg22 ang22 cdg22 ctg22), slg22⟩)
    (cg22 : PySem.W.codeIn K cdg22 "_law_plus" = true) (kg22 : PySem.W.keepIn K (.ref fg22) = true)
    (ag23 : PySem.W.nsIn K mainGlobals "_law_times" = some (some (.ref fg23)))
    (lg23 : K.lookup fg23 = some ⟨ocg23, odg23, .func (PySem.W.fnOf "_law_times" "_law_times" (defArgs s_l_times) (defBody s_l_times) (defScope s_l_times) .none kVg23 dcg23 pmg23 ang23 cdg23 ctg23), slg23⟩)
    (cg23 : PySem.W.codeIn K cdg23 "_law_times" = true) (kg23 : PySem.W.keepIn K (.ref fg23) = true)
    (ag24 : PySem.W.nsIn K mainGlobals "_law_minus" = some (some (.ref fg24)))
    (lg24 : K.lookup fg24 = some ⟨ocg24, odg24, .func (PySem.W.fnOf "_law_minus" "_law_minus" (defArgs s_l_minus) (defBody s_l_minus) (defScope s_l_minus) .none kVg24 dcg24 pmg24 ang24 cdg24 ctg24), slg24⟩)
    (cg24 : PySem.W.codeIn K cdg24 "_law_minus" = true) (kg24 : PySem.W.keepIn K (.ref fg24) = true)
    (ag25 : PySem.W.nsIn K mainGlobals "_law_over" = some (some (.ref fg25)))
    (lg25 : K.lookup fg25 = some ⟨ocg25, odg25, .func (PySem.W.fnOf "_law_over" "_law_over" (defArgs s_l_over) (defBody s_l_over) (defScope s_l_over) .none kVg25 dcg25 pmg25 ang25 cdg25 ctg25), slg25⟩)
    (cg25 : PySem.W.codeIn K cdg25 "_law_over" = true) (kg25 : PySem.W.keepIn K (.ref fg25) = true)
    (ag26 : PySem.W.nsIn K mainGlobals "_law_nought" = some (some (.ref fg26)))
    (lg26 : K.lookup fg26 = some ⟨ocg26, odg26, .func (PySem.W.fnOf "_law_nought" "_law_nought" (defArgs s_l_nought) (defBody s_l_nought) (defScope s_l_nought) .none kVg26 dcg26 pmg26 ang26 cdg26 ctg26), slg26⟩)
    (cg26 : PySem.W.codeIn K cdg26 "_law_nought" = true) (kg26 : PySem.W.keepIn K (.ref fg26) = true)
    (ag27 : PySem.W.nsIn K mainGlobals "_law_good" = some (some (.ref fg27)))
    (lg27 : K.lookup fg27 = some ⟨ocg27, odg27, .func (PySem.W.fnOf "_law_good" "_law_good" (defArgs s_l_good) (defBody s_l_good) (defScope s_l_good) .none kVg27 dcg27 pmg27 ang27 cdg27 ctg27), slg27⟩)
    (cg27 : PySem.W.codeIn K cdg27 "_law_good" = true) (kg27 : PySem.W.keepIn K (.ref fg27) = true)
    (ag28 : PySem.W.nsIn K mainGlobals "_law_good_row" = some (some (.ref fg28)))
    (lg28 : K.lookup fg28 = some ⟨ocg28, odg28, .func (PySem.W.fnOf "_law_good_row" "_law_good_row" (defArgs s_l_good_row) (defBody s_l_good_row) (defScope s_l_good_row) .none kVg28 dcg28 pmg28 ang28 cdg28 ctg28), slg28⟩)
    (cg28 : PySem.W.codeIn K cdg28 "_law_good_row" = true) (kg28 : PySem.W.keepIn K (.ref fg28) = true)
    (ag29 : PySem.W.nsIn K mainGlobals "_law_good_rows" = some (some (.ref fg29)))
    (lg29 : K.lookup fg29 = some ⟨ocg29, odg29, .func (PySem.W.fnOf "_law_good_rows" "_law_good_rows" (defArgs s_l_good_rows) (defBody s_l_good_rows) (defScope s_l_good_rows) .none kVg29 dcg29 pmg29 ang29 cdg29 ctg29), slg29⟩)
    (cg29 : PySem.W.codeIn K cdg29 "_law_good_rows" = true) (kg29 : PySem.W.keepIn K (.ref fg29) = true)
    (ag30 : PySem.W.nsIn K mainGlobals "_law_sum" = some (some (.ref fg30)))
    (lg30 : K.lookup fg30 = some ⟨ocg30, odg30, .func (PySem.W.fnOf "_law_sum" "_law_sum" (defArgs s_l_sum) (defBody s_l_sum) (defScope s_l_sum) .none kVg30 dcg30 pmg30 ang30 cdg30 ctg30), slg30⟩)
    (cg30 : PySem.W.codeIn K cdg30 "_law_sum" = true) (kg30 : PySem.W.keepIn K (.ref fg30) = true)
    (ag31 : PySem.W.nsIn K mainGlobals "_law_rank" = some (some (.ref fg31)))
    (lg31 : K.lookup fg31 = some ⟨ocg31, odg31, .func (PySem.W.fnOf "_law_rank" "_law_rank" (defArgs s_l_rank) (defBody s_l_rank) (defScope s_l_rank) .none kVg31 dcg31 pmg31 ang31 cdg31 ctg31), slg31⟩)
    (cg31 : PySem.W.codeIn K cdg31 "_law_rank" = true) (kg31 : PySem.W.keepIn K (.ref fg31) = true)
    (ag32 : PySem.W.nsIn K mainGlobals "_law_prime" = some (some (.ref fg32)))
    (lg32 : K.lookup fg32 = some ⟨ocg32, odg32, .func (PySem.W.fnOf "_law_prime" "_law_prime" (defArgs s_l_prime) (defBody s_l_prime) (defScope s_l_prime) .none kVg32 dcg32 pmg32 ang32 cdg32 ctg32), slg32⟩)
    (cg32 : PySem.W.codeIn K cdg32 "_law_prime" = true) (kg32 : PySem.W.keepIn K (.ref fg32) = true)
    (ag33 : PySem.W.nsIn K mainGlobals "_law_field" = some (some (.ref fg33)))
    (lg33 : K.lookup fg33 = some ⟨ocg33, odg33, .func (PySem.W.fnOf "_law_field" "_law_field" (defArgs s_l_field) (defBody s_l_field) (defScope s_l_field) .none kVg33 dcg33 pmg33 ang33 cdg33 ctg33), slg33⟩)
    (cg33 : PySem.W.codeIn K cdg33 "_law_field" = true) (kg33 : PySem.W.keepIn K (.ref fg33) = true)
    (ag34 : PySem.W.nsIn K mainGlobals "_law_tiny" = some (some (.ref fg34)))
    (lg34 : K.lookup fg34 = some ⟨ocg34, odg34, .func (PySem.W.fnOf "_law_tiny" "_law_tiny" (defArgs s_l_tiny) (defBody s_l_tiny) (defScope s_l_tiny) .none kVg34 dcg34 pmg34 ang34 cdg34 ctg34), slg34⟩)
    (cg34 : PySem.W.codeIn K cdg34 "_law_tiny" = true) (kg34 : PySem.W.keepIn K (.ref fg34) = true)
    (ag35 : PySem.W.nsIn K mainGlobals "_law_number" = some (some (.ref fg35)))
    (lg35 : K.lookup fg35 = some ⟨ocg35, odg35, .func (PySem.W.fnOf "_law_number" "_law_number" (defArgs s_l_number) (defBody s_l_number) (defScope s_l_number) .none kVg35 dcg35 pmg35 ang35 cdg35 ctg35), slg35⟩)
    (cg35 : PySem.W.codeIn K cdg35 "_law_number" = true) (kg35 : PySem.W.keepIn K (.ref fg35) = true)
    (ag36 : PySem.W.nsIn K mainGlobals "_law_rows" = some (some (.ref fg36)))
    (lg36 : K.lookup fg36 = some ⟨ocg36, odg36, .func (PySem.W.fnOf "_law_rows" "_law_rows" (defArgs s_l_rows) (defBody s_l_rows) (defScope s_l_rows) .none kVg36 dcg36 pmg36 ang36 cdg36 ctg36), slg36⟩)
    (cg36 : PySem.W.codeIn K cdg36 "_law_rows" = true) (kg36 : PySem.W.keepIn K (.ref fg36) = true)
    (ag37 : PySem.W.nsIn K mainGlobals "_law_right_weights" = some (some (.ref fg37)))
    (lg37 : K.lookup fg37 = some ⟨ocg37, odg37, .func (PySem.W.fnOf "_law_right_weights" "_law_right_weights" (defArgs s_l_right_weights) (defBody s_l_right_weights) (defScope s_l_right_weights) .none kVg37 dcg37 pmg37 ang37 cdg37 ctg37), slg37⟩)
    (cg37 : PySem.W.codeIn K cdg37 "_law_right_weights" = true) (kg37 : PySem.W.keepIn K (.ref fg37) = true)
    (ag38 : PySem.W.nsIn K mainGlobals "_law_undone" = some (some (.ref fg38)))
    (lg38 : K.lookup fg38 = some ⟨ocg38, odg38, .func (PySem.W.fnOf "_law_undone" "_law_undone" (defArgs s_l_undone) (defBody s_l_undone) (defScope s_l_undone) .none kVg38 dcg38 pmg38 ang38 cdg38 ctg38), slg38⟩)
    (cg38 : PySem.W.codeIn K cdg38 "_law_undone" = true) (kg38 : PySem.W.keepIn K (.ref fg38) = true)
    (ag39 : PySem.W.nsIn K mainGlobals "law" = some (some (.ref fg39)))
    (lg39 : K.lookup fg39 = some ⟨ocg39, odg39, .func (PySem.W.fnOf "law" "law" (defArgs s_law) (defBody s_law) (defScope s_law) .none kVg39 dcg39 pmg39 ang39 cdg39 ctg39), slg39⟩)
    (cg39 : PySem.W.codeIn K cdg39 "law" = true) (kg39 : PySem.W.keepIn K (.ref fg39) = true)
    (aW : PySem.W.nsIn K mainGlobals "is_whole" = some (some (.ref fW)))
    (lW : K.lookup fW = some ⟨ocW, odW, .func (PySem.W.fnOf "is_whole" "is_whole" (defArgs s_is_whole) (defBody s_is_whole) (defScope s_is_whole) (.ref TW) kVW dcW pmW anW cdW ctW), slW⟩)
    (lT : K.lookup TW = some ⟨ocT, odT, .seq ([.none, .none] : List Value).toArray nT, slT⟩)
    (cW : PySem.W.codeIn K cdW "is_whole" = true)
    (kW : PySem.W.keepIn K (.ref fW) = true)
    (am0 : PySem.W.findIn K (.ref CR) "plus" = some (some (.ref fm0)))
    (im0 : PySem.W.isFn K (.ref fm0) = true)
    (lm0 : K.lookup fm0 = some ⟨ocm0, odm0, .func (PySem.W.fnOf "plus" "RestField.plus" (defArgs s_rp) (defBody s_rp) (defScope s_rp) .none kVm0 dcm0 pmm0 anm0 cdm0 ctm0), slm0⟩)
    (cm0 : PySem.W.codeIn K cdm0 "RestField.plus" = true) (km0 : PySem.W.keepIn K (.ref fm0) = true)
    (am1 : PySem.W.findIn K (.ref CR) "less" = some (some (.ref fm1)))
    (im1 : PySem.W.isFn K (.ref fm1) = true)
    (lm1 : K.lookup fm1 = some ⟨ocm1, odm1, .func (PySem.W.fnOf "less" "RestField.less" (defArgs s_rl) (defBody s_rl) (defScope s_rl) .none kVm1 dcm1 pmm1 anm1 cdm1 ctm1), slm1⟩)
    (cm1 : PySem.W.codeIn K cdm1 "RestField.less" = true) (km1 : PySem.W.keepIn K (.ref fm1) = true)
    (am2 : PySem.W.findIn K (.ref CR) "times" = some (some (.ref fm2)))
    (im2 : PySem.W.isFn K (.ref fm2) = true)
    (lm2 : K.lookup fm2 = some ⟨ocm2, odm2, .func (PySem.W.fnOf "times" "RestField.times" (defArgs s_rt) (defBody s_rt) (defScope s_rt) .none kVm2 dcm2 pmm2 anm2 cdm2 ctm2), slm2⟩)
    (cm2 : PySem.W.codeIn K cdm2 "RestField.times" = true) (km2 : PySem.W.keepIn K (.ref fm2) = true)
    (am3 : PySem.W.findIn K (.ref CR) "quotient" = some (some (.ref fm3)))
    (im3 : PySem.W.isFn K (.ref fm3) = true)
    (lm3 : K.lookup fm3 = some ⟨ocm3, odm3, .func (PySem.W.fnOf "quotient" "RestField.quotient" (defArgs s_rq) (defBody s_rq) (defScope s_rq) .none kVm3 dcm3 pmm3 anm3 cdm3 ctm3), slm3⟩)
    (cm3 : PySem.W.codeIn K cdm3 "RestField.quotient" = true) (km3 : PySem.W.keepIn K (.ref fm3) = true)
    (am4 : PySem.W.findIn K (.ref CR) "power" = some (some (.ref fm4)))
    (im4 : PySem.W.isFn K (.ref fm4) = true)
    (lm4 : K.lookup fm4 = some ⟨ocm4, odm4, .func (PySem.W.fnOf "power" "RestField.power" (defArgs s_rw) (defBody s_rw) (defScope s_rw) .none kVm4 dcm4 pmm4 anm4 cdm4 ctm4), slm4⟩)
    (cm4 : PySem.W.codeIn K cdm4 "RestField.power" = true) (km4 : PySem.W.keepIn K (.ref fm4) = true)
    (am5 : PySem.W.findIn K (.ref CF) "plus" = some (some (.ref fm5)))
    (im5 : PySem.W.isFn K (.ref fm5) = true)
    (lm5 : K.lookup fm5 = some ⟨ocm5, odm5, .func (PySem.W.fnOf "plus" "FractionField.plus" (defArgs s_fp) (defBody s_fp) (defScope s_fp) .none kVm5 dcm5 pmm5 anm5 cdm5 ctm5), slm5⟩)
    (cm5 : PySem.W.codeIn K cdm5 "FractionField.plus" = true) (km5 : PySem.W.keepIn K (.ref fm5) = true)
    (am6 : PySem.W.findIn K (.ref CF) "less" = some (some (.ref fm6)))
    (im6 : PySem.W.isFn K (.ref fm6) = true)
    (lm6 : K.lookup fm6 = some ⟨ocm6, odm6, .func (PySem.W.fnOf "less" "FractionField.less" (defArgs s_fl) (defBody s_fl) (defScope s_fl) .none kVm6 dcm6 pmm6 anm6 cdm6 ctm6), slm6⟩)
    (cm6 : PySem.W.codeIn K cdm6 "FractionField.less" = true) (km6 : PySem.W.keepIn K (.ref fm6) = true)
    (am7 : PySem.W.findIn K (.ref CF) "times" = some (some (.ref fm7)))
    (im7 : PySem.W.isFn K (.ref fm7) = true)
    (lm7 : K.lookup fm7 = some ⟨ocm7, odm7, .func (PySem.W.fnOf "times" "FractionField.times" (defArgs s_ft) (defBody s_ft) (defScope s_ft) .none kVm7 dcm7 pmm7 anm7 cdm7 ctm7), slm7⟩)
    (cm7 : PySem.W.codeIn K cdm7 "FractionField.times" = true) (km7 : PySem.W.keepIn K (.ref fm7) = true)
    (am8 : PySem.W.findIn K (.ref CF) "quotient" = some (some (.ref fm8)))
    (im8 : PySem.W.isFn K (.ref fm8) = true)
    (lm8 : K.lookup fm8 = some ⟨ocm8, odm8, .func (PySem.W.fnOf "quotient" "FractionField.quotient" (defArgs s_fq) (defBody s_fq) (defScope s_fq) .none kVm8 dcm8 pmm8 anm8 cdm8 ctm8), slm8⟩)
    (cm8 : PySem.W.codeIn K cdm8 "FractionField.quotient" = true) (km8 : PySem.W.keepIn K (.ref fm8) = true)
    (ai0 : PySem.W.findIn K (.ref CR) "__init__" = some (some (.ref fi0)))
    (ii0 : PySem.W.isFn K (.ref fi0) = true)
    (li0 : K.lookup fi0 = some ⟨oci0, odi0, .func (PySem.W.fnOf "__init__" "RestField.__init__" (defArgs s_ri) (defBody s_ri) (defScope s_ri) .none kVi0 dci0 pmi0 ani0 cdi0 cti0), sli0⟩)
    (ci0 : PySem.W.codeIn K cdi0 "RestField.__init__" = true) (ki0 : PySem.W.keepIn K (.ref fi0) = true)
    (mki0 : PySem.W.makesIn K CR = true)
    (kci0 : PySem.W.keepIn K (.ref CR) = true)
    (ai1 : PySem.W.findIn K (.ref CF) "__init__" = some (some (.ref fi1)))
    (ii1 : PySem.W.isFn K (.ref fi1) = true)
    (li1 : K.lookup fi1 = some ⟨oci1, odi1, .func (PySem.W.fnOf "__init__" "FractionField.__init__" (defArgs s_fi) (defBody s_fi) (defScope s_fi) .none kVi1 dci1 pmi1 ani1 cdi1 cti1), sli1⟩)
    (ci1 : PySem.W.codeIn K cdi1 "FractionField.__init__" = true) (ki1 : PySem.W.keepIn K (.ref fi1) = true)
    (mki1 : PySem.W.makesIn K CF = true)
    (kci1 : PySem.W.keepIn K (.ref CF) = true)
    (pgCR : PySem.W.plainGet K CR Str.empty = true)
    (hdCR : PySem.W.hasDictIn K CR = true)
    (poCR : PySem.W.plainOver K CR = true)
    (saCR : PySem.W.findIn K (.ref CR) "__setattr__" = some (some (.builtin "object.__setattr__")))
    (pgCF : PySem.W.plainGet K CF Str.empty = true)
    (hdCF : PySem.W.hasDictIn K CF = true)
    (poCF : PySem.W.plainOver K CF = true)
    (saCF : PySem.W.findIn K (.ref CF) "__setattr__" = some (some (.builtin "object.__setattr__")))
    (n_rp : PySem.W.findIn K (.ref CR) "prime" = some none)
    (n_rz : PySem.W.findIn K (.ref CR) "zero" = some none)
    (n_ro : PySem.W.findIn K (.ref CR) "one" = some none)
    (n_rm : PySem.W.findIn K (.ref CR) "minus_one" = some none)
    (n_fz : PySem.W.findIn K (.ref CF) "zero" = some none)
    (n_fo : PySem.W.findIn K (.ref CF) "one" = some none)
    (n_fm : PySem.W.findIn K (.ref CF) "minus_one" = some none)
    (z_len : PySem.W.nsIn K mainGlobals "len" = some none)
    (z_abs : PySem.W.nsIn K mainGlobals "abs" = some none)
    (z_int : PySem.W.nsIn K mainGlobals "int" = some none)
    (z_tuple : PySem.W.nsIn K mainGlobals "tuple" = some none)
    (z_list : PySem.W.nsIn K mainGlobals "list" = some none)
    (z_zip : PySem.W.nsIn K mainGlobals "zip" = some none)
    (z_range : PySem.W.nsIn K mainGlobals "range" = some none)
    (z_enumerate : PySem.W.nsIn K mainGlobals "enumerate" = some none)
    (z_divmod : PySem.W.nsIn K mainGlobals "divmod" = some none)
    (z_isinstance : PySem.W.nsIn K mainGlobals "isinstance" = some none)
    (z_repr : PySem.W.nsIn K mainGlobals "repr" = some none)
    (z_bool : PySem.W.nsIn K mainGlobals "bool" = some none)
    (aMP : PySem.W.nsIn K mainGlobals "MOST_PRIME" = some (some (.int 20000 tMP)))
    (zVE : PySem.W.nsIn K mainGlobals "ValueError" = some none)
    (xga : PySem.W.findIn K (.ref NC) "__getattribute__" = some (some (.builtin "BaseException.__getattribute__")))
    (xgg : PySem.W.findIn K (.ref NC) "__getattr__" = some none)
    (xsb : PySem.W.subIn K (.ref NC) (.type "BaseException") = some true)
    (xhd : PySem.W.hasDictIn K NC = true)
    (xcl : PySem.W.findIn K (.ref NC) "__class__" = some (some (.builtin "object.__class__")))
    (xgt : PySem.W.specialIn K (.builtin "object.__class__") "__get__" = some (some (.builtin "getset_descriptor.__get__")))
    (xtk : PySem.W.takesIn K (.builtin "object.__class__") = some true)
    (xmr : PySem.W.mroIn K NC (.type "object") = some true)
    (xk2 : PySem.W.subIn K (.ref NC) (.type "ValueError") = some true)
    (s1 : PySem.W.subIn K (.ref SE) (.type "BaseException") = some true)
    (s2 : PySem.W.hasDictIn K SE = true)
    (s3 : PySem.W.typeIn K (.ref SE) = some (.type "type"))
    (s4 : PySem.W.subIn K (.ref NC) (.ref SE) = some true)
    (xL : K.lookup NC = some (excClassObj nm qn NC N bs [.ref SE, .type "ValueError", .type "Exception", .type "BaseException", .type "object"] true sn sub ab col dd m0 m1 m2 m3 m5 "ValueError.__new__"))
    (xsa : PySem.W.findIn K (.ref NC) "__setattr__" = some (some (.builtin "object.__setattr__")))
    (xty : PySem.W.typeIn K (.ref NC) = some (.type "type"))
    (xkc : PySem.W.keepIn K (.ref NC) = true)
    (p1 : PySem.W.specialIn K (.ref SE) "__getattribute__" = some (some (.builtin "type.__getattribute__")))
    (p2 : PySem.W.readsIn K SE (.type "type") = true)
    (p3 : PySem.W.findCls K (.ref SE) (.type "type") "__init__" = some (.val (.builtin "ValueError.__init__")))
    (aNI : PySem.W.findIn K (.ref NC) "__init__" = some (some (.ref fNI)))
    (tNI : PySem.W.typeIn K (.ref fNI) = some (.type "function"))
    (lNI : K.lookup fNI = some ⟨ocNI, odNI, .func (PySem.W.fnOf "__init__" "NotInvertible.__init__" (defArgs s_NotInvertible___init__) (defBody s_NotInvertible___init__) (defScope s_NotInvertible___init__) .none kVNI dcNI pmNI anNI cdNI ctNI), slNI⟩)
    (cNI : PySem.W.codeIn K cdNI "NotInvertible.__init__" = true) (kNI : PySem.W.keepIn K (.ref fNI) = true) :
    ∃ fd : FuncData, (∀ (s : Shared) (u : Value), BindsTo s fd ⟨[u], []⟩ [("_law_script", u)]) ∧ ∀ base : Heap, K.In base → base.Ns mainGlobals mg → FnOkG P w K mg base 9 fa fd ["_law_script"] (spLaw K) := by
  have e := hfa.symm.trans (PySem.W.mg_of X G ag39)
  cases e
  have A : AllF K mg CR CF NC SE := {
    h_common_divisor := fun_some X G ag0 (fun_mk (st := s_common_divisor) lg0 cg0 kg0) ((fun_mk (st := s_common_divisor) lg0 cg0 kg0).binds fun _ _ _ _ _ _ us hl => match us, hl with | [_, _], _ => rfl)
    h_lowest_terms := fun_some X G ag1 (fun_mk (st := s_lowest_terms) lg1 cg1 kg1) ((fun_mk (st := s_lowest_terms) lg1 cg1 kg1).binds fun _ _ _ _ _ _ us hl => match us, hl with | [_, _], _ => rfl)
    h_is_prime := fun_some X G ag2 (fun_mk (st := s_is_prime) lg2 cg2 kg2) ((fun_mk (st := s_is_prime) lg2 cg2 kg2).binds fun _ _ _ _ _ _ us hl => match us, hl with | [_], _ => rfl)
    h_rest_power := fun_some X G ag3 (fun_mk (st := s_rest_power) lg3 cg3 kg3) ((fun_mk (st := s_rest_power) lg3 cg3 kg3).binds fun _ _ _ _ _ _ us hl => match us, hl with | [_, _, _], _ => rfl)
    h_row_plus := fun_some X G ag4 (fun_mk (st := s_row_plus) lg4 cg4 kg4) ((fun_mk (st := s_row_plus) lg4 cg4 kg4).binds fun _ _ _ _ _ _ us hl => match us, hl with | [_, _, _, _], _ => rfl)
    h_row_times := fun_some X G ag5 (fun_mk (st := s_row_times) lg5 cg5 kg5) ((fun_mk (st := s_row_times) lg5 cg5 kg5).binds fun _ _ _ _ _ _ us hl => match us, hl with | [_, _, _], _ => rfl)
    h_field_units := fun_some X G ag6 (fun_mk (st := s_field_units) lg6 cg6 kg6) ((fun_mk (st := s_field_units) lg6 cg6 kg6).binds fun _ _ _ _ _ _ us hl => match us, hl with | [_, _], _ => rfl)
    h_zero_row := fun_some X G ag7 (fun_mk (st := s_zero_row) lg7 cg7 kg7) ((fun_mk (st := s_zero_row) lg7 cg7 kg7).binds fun _ _ _ _ _ _ us hl => match us, hl with | [_, _], _ => rfl)
    h_lead_of := fun_some X G ag8 (fun_mk (st := s_lead_of) lg8 cg8 kg8) ((fun_mk (st := s_lead_of) lg8 cg8 kg8).binds fun _ _ _ _ _ _ us hl => match us, hl with | [_, _], _ => rfl)
    h_reduced_rows := fun_some X G ag9 (fun_mk (st := s_reduced_rows) lg9 cg9 kg9) ((fun_mk (st := s_reduced_rows) lg9 cg9 kg9).binds fun _ _ _ _ _ _ us hl => match us, hl with | [_, _], _ => rfl)
    h_rank_of_rows := fun_some X G ag10 (fun_mk (st := s_rank_of_rows) lg10 cg10 kg10) ((fun_mk (st := s_rank_of_rows) lg10 cg10 kg10).binds fun _ _ _ _ _ _ us hl => match us, hl with | [_, _], _ => rfl)
    h_rows_unbound := fun_some X G ag11 (fun_mk (st := s_rows_unbound) lg11 cg11 kg11) ((fun_mk (st := s_rows_unbound) lg11 cg11 kg11).binds fun _ _ _ _ _ _ us hl => match us, hl with | [_, _], _ => rfl)
    h_weights_for := fun_some X G ag12 (fun_mk (st := s_weights_for) lg12 cg12 kg12) ((fun_mk (st := s_weights_for) lg12 cg12 kg12).binds fun _ _ _ _ _ _ us hl => match us, hl with | [_, _, _], _ => rfl)
    h_weighted_sum := fun_some X G ag13 (fun_mk (st := s_weighted_sum) lg13 cg13 kg13) ((fun_mk (st := s_weighted_sum) lg13 cg13 kg13).binds fun _ _ _ _ _ _ us hl => match us, hl with | [_, _, _, _], _ => rfl)
    h_rows_product := fun_some X G ag14 (fun_mk (st := s_rows_product) lg14 cg14 kg14) ((fun_mk (st := s_rows_product) lg14 cg14 kg14).binds fun _ _ _ _ _ _ us hl => match us, hl with | [_, _, _], _ => rfl)
    h_undoing_rows := fun_some X G ag15 (fun_mk (st := s_undoing_rows) lg15 cg15 kg15) ((fun_mk (st := s_undoing_rows) lg15 cg15 kg15).binds fun _ _ _ _ _ _ us hl => match us, hl with | [_, _], _ => rfl)
    h_l_start := fun_some X G ag16 (fun_mk (st := s_l_start) lg16 cg16 kg16) ((fun_mk (st := s_l_start) lg16 cg16 kg16).binds fun _ _ _ _ _ _ us hl => match us, hl with | [_], _ => rfl)
    h_l_draw := fun_some X G ag17 (fun_mk (st := s_l_draw) lg17 cg17 kg17) ((fun_mk (st := s_l_draw) lg17 cg17 kg17).binds fun _ _ _ _ _ _ us hl => match us, hl with | [_, _], _ => rfl)
    h_l_whole := fun_some X G ag18 (fun_mk (st := s_l_whole) lg18 cg18 kg18) ((fun_mk (st := s_l_whole) lg18 cg18 kg18).binds fun _ _ _ _ _ _ us hl => match us, hl with | [_], _ => rfl)
    h_l_gcd := fun_some X G ag19 (fun_mk (st := s_l_gcd) lg19 cg19 kg19) ((fun_mk (st := s_l_gcd) lg19 cg19 kg19).binds fun _ _ _ _ _ _ us hl => match us, hl with | [_, _], _ => rfl)
    h_l_low := fun_some X G ag20 (fun_mk (st := s_l_low) lg20 cg20 kg20) ((fun_mk (st := s_l_low) lg20 cg20 kg20).binds fun _ _ _ _ _ _ us hl => match us, hl with | [_, _], _ => rfl)
    h_l_some := fun_some X G ag21 (fun_mk (st := s_l_some) lg21 cg21 kg21) ((fun_mk (st := s_l_some) lg21 cg21 kg21).binds fun _ _ _ _ _ _ us hl => match us, hl with | [_, _], _ => rfl)
    h_l_plus := fun_some X G ag22 (fun_mk (st := s_l_plus) lg22 cg22 kg22) ((fun_mk (st := s_l_plus) lg22 cg22 kg22).binds fun _ _ _ _ _ _ us hl => match us, hl with | [_, _, _], _ => rfl)
    h_l_times := fun_some X G ag23 (fun_mk (st := s_l_times) lg23 cg23 kg23) ((fun_mk (st := s_l_times) lg23 cg23 kg23).binds fun _ _ _ _ _ _ us hl => match us, hl with | [_, _, _], _ => rfl)
    h_l_minus := fun_some X G ag24 (fun_mk (st := s_l_minus) lg24 cg24 kg24) ((fun_mk (st := s_l_minus) lg24 cg24 kg24).binds fun _ _ _ _ _ _ us hl => match us, hl with | [_, _], _ => rfl)
    h_l_over := fun_some X G ag25 (fun_mk (st := s_l_over) lg25 cg25 kg25) ((fun_mk (st := s_l_over) lg25 cg25 kg25).binds fun _ _ _ _ _ _ us hl => match us, hl with | [_, _, _], _ => rfl)
    h_l_nought := fun_some X G ag26 (fun_mk (st := s_l_nought) lg26 cg26 kg26) ((fun_mk (st := s_l_nought) lg26 cg26 kg26).binds fun _ _ _ _ _ _ us hl => match us, hl with | [_, _], _ => rfl)
    h_l_good := fun_some X G ag27 (fun_mk (st := s_l_good) lg27 cg27 kg27) ((fun_mk (st := s_l_good) lg27 cg27 kg27).binds fun _ _ _ _ _ _ us hl => match us, hl with | [_, _], _ => rfl)
    h_l_good_row := fun_some X G ag28 (fun_mk (st := s_l_good_row) lg28 cg28 kg28) ((fun_mk (st := s_l_good_row) lg28 cg28 kg28).binds fun _ _ _ _ _ _ us hl => match us, hl with | [_, _, _], _ => rfl)
    h_l_good_rows := fun_some X G ag29 (fun_mk (st := s_l_good_rows) lg29 cg29 kg29) ((fun_mk (st := s_l_good_rows) lg29 cg29 kg29).binds fun _ _ _ _ _ _ us hl => match us, hl with | [_, _, _, _], _ => rfl)
    h_l_sum := fun_some X G ag30 (fun_mk (st := s_l_sum) lg30 cg30 kg30) ((fun_mk (st := s_l_sum) lg30 cg30 kg30).binds fun _ _ _ _ _ _ us hl => match us, hl with | [_, _, _, _], _ => rfl)
    h_l_rank := fun_some X G ag31 (fun_mk (st := s_l_rank) lg31 cg31 kg31) ((fun_mk (st := s_l_rank) lg31 cg31 kg31).binds fun _ _ _ _ _ _ us hl => match us, hl with | [_, _], _ => rfl)
    h_l_prime := fun_some X G ag32 (fun_mk (st := s_l_prime) lg32 cg32 kg32) ((fun_mk (st := s_l_prime) lg32 cg32 kg32).binds fun _ _ _ _ _ _ us hl => match us, hl with | [_], _ => rfl)
    h_l_field := fun_some X G ag33 (fun_mk (st := s_l_field) lg33 cg33 kg33) ((fun_mk (st := s_l_field) lg33 cg33 kg33).binds fun _ _ _ _ _ _ us hl => match us, hl with | [_], _ => rfl)
    h_l_tiny := fun_some X G ag34 (fun_mk (st := s_l_tiny) lg34 cg34 kg34) ((fun_mk (st := s_l_tiny) lg34 cg34 kg34).binds fun _ _ _ _ _ _ us hl => match us, hl with | [_, _], _ => rfl)
    h_l_number := fun_some X G ag35 (fun_mk (st := s_l_number) lg35 cg35 kg35) ((fun_mk (st := s_l_number) lg35 cg35 kg35).binds fun _ _ _ _ _ _ us hl => match us, hl with | [_, _], _ => rfl)
    h_l_rows := fun_some X G ag36 (fun_mk (st := s_l_rows) lg36 cg36 kg36) ((fun_mk (st := s_l_rows) lg36 cg36 kg36).binds fun _ _ _ _ _ _ us hl => match us, hl with | [_, _, _, _], _ => rfl)
    h_l_right_weights := fun_some X G ag37 (fun_mk (st := s_l_right_weights) lg37 cg37 kg37) ((fun_mk (st := s_l_right_weights) lg37 cg37 kg37).binds fun _ _ _ _ _ _ us hl => match us, hl with | [_, _, _, _, _], _ => rfl)
    h_l_undone := fun_some X G ag38 (fun_mk (st := s_l_undone) lg38 cg38 kg38) ((fun_mk (st := s_l_undone) lg38 cg38 kg38).binds fun _ _ _ _ _ _ us hl => match us, hl with | [_, _, _], _ => rfl)
    h_is_whole := isw X G aW lW lT cW kW
    m_CR_plus := ⟨_, _, ⟨am0, im0, km0⟩, fun_mk (st := s_rp) lm0 cm0 km0, (fun_mk (st := s_rp) lm0 cm0 km0).binds fun _ _ _ _ _ _ us hl => match us, hl with | [_, _, _], _ => rfl⟩
    m_CR_less := ⟨_, _, ⟨am1, im1, km1⟩, fun_mk (st := s_rl) lm1 cm1 km1, (fun_mk (st := s_rl) lm1 cm1 km1).binds fun _ _ _ _ _ _ us hl => match us, hl with | [_, _, _], _ => rfl⟩
    m_CR_times := ⟨_, _, ⟨am2, im2, km2⟩, fun_mk (st := s_rt) lm2 cm2 km2, (fun_mk (st := s_rt) lm2 cm2 km2).binds fun _ _ _ _ _ _ us hl => match us, hl with | [_, _, _], _ => rfl⟩
    m_CR_quotient := ⟨_, _, ⟨am3, im3, km3⟩, fun_mk (st := s_rq) lm3 cm3 km3, (fun_mk (st := s_rq) lm3 cm3 km3).binds fun _ _ _ _ _ _ us hl => match us, hl with | [_, _, _], _ => rfl⟩
    m_CR_power := ⟨_, _, ⟨am4, im4, km4⟩, fun_mk (st := s_rw) lm4 cm4 km4, (fun_mk (st := s_rw) lm4 cm4 km4).binds fun _ _ _ _ _ _ us hl => match us, hl with | [_, _, _], _ => rfl⟩
    m_CF_plus := ⟨_, _, ⟨am5, im5, km5⟩, fun_mk (st := s_fp) lm5 cm5 km5, (fun_mk (st := s_fp) lm5 cm5 km5).binds fun _ _ _ _ _ _ us hl => match us, hl with | [_, _, _], _ => rfl⟩
    m_CF_less := ⟨_, _, ⟨am6, im6, km6⟩, fun_mk (st := s_fl) lm6 cm6 km6, (fun_mk (st := s_fl) lm6 cm6 km6).binds fun _ _ _ _ _ _ us hl => match us, hl with | [_, _, _], _ => rfl⟩
    m_CF_times := ⟨_, _, ⟨am7, im7, km7⟩, fun_mk (st := s_ft) lm7 cm7 km7, (fun_mk (st := s_ft) lm7 cm7 km7).binds fun _ _ _ _ _ _ us hl => match us, hl with | [_, _, _], _ => rfl⟩
    m_CF_quotient := ⟨_, _, ⟨am8, im8, km8⟩, fun_mk (st := s_fq) lm8 cm8 km8, (fun_mk (st := s_fq) lm8 cm8 km8).binds fun _ _ _ _ _ _ us hl => match us, hl with | [_, _, _], _ => rfl⟩
    i_CR := ⟨_, _, PySem.W.mg_of X G aCR, ⟨mki0, ai0, ii0, kci0⟩, fun_mk (st := s_ri) li0 ci0 ki0, (fun_mk (st := s_ri) li0 ci0 ki0).binds fun _ _ _ _ _ _ us hl => match us, hl with | [_, _], _ => rfl⟩
    i_CF := ⟨_, _, PySem.W.mg_of X G aCF, ⟨mki1, ai1, ii1, kci1⟩, fun_mk (st := s_fi) li1 ci1 ki1, (fun_mk (st := s_fi) li1 ci1 ki1).binds fun _ _ _ _ _ _ us hl => match us, hl with | [_], _ => rfl⟩
    cR := ⟨pgCR, hdCR, poCR, saCR⟩
    cF := ⟨pgCF, hdCF, poCF, saCF⟩
    rp := n_rp
    rz := n_rz
    ro := n_ro
    rm := n_rm
    fz := n_fz
    fo := n_fo
    fm := n_fm
    blt := ⟨PySem.W.mg_none_of X G z_len, PySem.W.mg_none_of X G z_abs, PySem.W.mg_none_of X G z_int, PySem.W.mg_none_of X G z_tuple, PySem.W.mg_none_of X G z_list, PySem.W.mg_none_of X G z_zip, PySem.W.mg_none_of X G z_range, PySem.W.mg_none_of X G z_enumerate, PySem.W.mg_none_of X G z_divmod, PySem.W.mg_none_of X G z_isinstance, PySem.W.mg_none_of X G z_repr, PySem.W.mg_none_of X G z_bool⟩
    most := ⟨_, PySem.W.mg_of X G aMP, ⟨_, rfl⟩⟩
    err := ⟨PySem.W.mg_of X G aNC, PySem.W.mg_of X G aSE, PySem.W.mg_none_of X G zVE, ⟨xga, xgg, xsb, xhd, xcl, xgt, xtk, xmr⟩, by unfold PySem.W.kitOne; rw [if_pos (beq_self_eq_true _)], (by unfold PySem.W.kitOne PySem.W.kitCls; rw [if_neg (by simp)]; dsimp only; rw [if_pos (by decide +kernel)]; exact xk2), PySem.W.exm_ref s1 s2 s3 s4⟩
    ex := ⟨⟨nm, qn, N, bs, _, sn, sub, ab, col, dd, m0, m1, m2, m3, m5, xL, by first | rfl | decide +kernel⟩, xsa, xsb, xty, xkc⟩
    sup := ⟨p1, p2, p3⟩
    ini := ⟨_, _, aNI, tNI, (fun_mk (st := s_NotInvertible___init__) lNI cNI kNI).binds fun _ _ _ _ _ _ us hl => match us, hl with | [_], _ => rfl, fun_mk (st := s_NotInvertible___init__) lNI cNI kNI⟩
  }
  exact ⟨_, fun s v => .of_eq rfl, fun base _ _ => law_fn A (fun_mk (st := s_law) lg39 cg39 kg39)⟩
end W26
open PySem PySem.W PyProof.Rows
set_option maxRecDepth 100000 in
set_option maxHeartbeats 0 in
theorem PySem.Challenge.cw_sheetproofs_k26_whole_ranks_weights_and_holds : PySem.Challenge.rw_sheetproofs_k26_whole_ranks_weights_and.Holds := by
  w_on; o_law; k_head; (case hw => w_witness2)
  k_fill
  refine W26.walkG (l := PySem.Challenge.rw_sheetproofs_k26_whole_ranks_weights_and) rfl rfl (fun w h Y => PySem.W.kIn_of Y) ?F
  case F =>
    intro w mg fa h KX G hmg
    refine' W26.all_mk KX G hmg ?aCR ?aCF ?aNC ?aSE ?ag0 ?lg0 ?cg0 ?kg0 ?ag1 ?lg1 ?cg1 ?kg1 ?ag2 ?lg2 ?cg2 ?kg2 ?ag3 ?lg3 ?cg3 ?kg3 ?ag4 ?lg4 ?cg4 ?kg4 ?ag5 ?lg5 ?cg5 ?kg5 ?ag6 ?lg6 ?cg6 ?kg6 ?ag7 ?lg7 ?cg7 ?kg7 ?ag8 ?lg8 ?cg8 ?kg8 ?ag9 ?lg9 ?cg9 ?kg9 ?ag10 ?lg10 ?cg10 ?kg10 ?ag11 ?lg11 ?cg11 ?kg11 ?ag12 ?lg12 ?cg12 ?kg12 ?ag13 ?lg13 ?cg13 ?kg13 ?ag14 ?lg14 ?cg14 ?kg14 ?ag15 ?lg15 ?cg15 ?kg15 ?ag16 ?lg16 ?cg16 ?kg16 ?ag17 ?lg17 ?cg17 ?kg17 ?ag18 ?lg18 ?cg18 ?kg18 ?ag19 ?lg19 ?cg19 ?kg19 ?ag20 ?lg20 ?cg20 ?kg20 ?ag21 ?lg21 ?cg21 ?kg21 ?ag22 ?lg22 ?cg22 ?kg22 ?ag23 ?lg23 ?cg23 ?kg23 ?ag24 ?lg24 ?cg24 ?kg24 ?ag25 ?lg25 ?cg25 ?kg25 ?ag26 ?lg26 ?cg26 ?kg26 ?ag27 ?lg27 ?cg27 ?kg27 ?ag28 ?lg28 ?cg28 ?kg28 ?ag29 ?lg29 ?cg29 ?kg29 ?ag30 ?lg30 ?cg30 ?kg30 ?ag31 ?lg31 ?cg31 ?kg31 ?ag32 ?lg32 ?cg32 ?kg32 ?ag33 ?lg33 ?cg33 ?kg33 ?ag34 ?lg34 ?cg34 ?kg34 ?ag35 ?lg35 ?cg35 ?kg35 ?ag36 ?lg36 ?cg36 ?kg36 ?ag37 ?lg37 ?cg37 ?kg37 ?ag38 ?lg38 ?cg38 ?kg38 ?ag39 ?lg39 ?cg39 ?kg39 ?aW ?lW ?lT ?cW ?kW ?am0 ?im0 ?lm0 ?cm0 ?km0 ?am1 ?im1 ?lm1 ?cm1 ?km1 ?am2 ?im2 ?lm2 ?cm2 ?km2 ?am3 ?im3 ?lm3 ?cm3 ?km3 ?am4 ?im4 ?lm4 ?cm4 ?km4 ?am5 ?im5 ?lm5 ?cm5 ?km5 ?am6 ?im6 ?lm6 ?cm6 ?km6 ?am7 ?im7 ?lm7 ?cm7 ?km7 ?am8 ?im8 ?lm8 ?cm8 ?km8 ?ai0 ?ii0 ?li0 ?ci0 ?ki0 ?mki0 ?kci0 ?ai1 ?ii1 ?li1 ?ci1 ?ki1 ?mki1 ?kci1 ?pgCR ?hdCR ?poCR ?saCR ?pgCF ?hdCF ?poCF ?saCF ?n_rp ?n_rz ?n_ro ?n_rm ?n_fz ?n_fo ?n_fm ?z_len ?z_abs ?z_int ?z_tuple ?z_list ?z_zip ?z_range ?z_enumerate ?z_divmod ?z_isinstance ?z_repr ?z_bool ?aMP ?zVE ?xga ?xgg ?xsb ?xhd ?xcl ?xgt ?xtk ?xmr ?xk2 ?s1 ?s2 ?s3 ?s4 ?xL ?xsa ?xty ?xkc ?p1 ?p2 ?p3 ?aNI ?tNI ?lNI ?cNI ?kNI
    (case aCR => first | k_is | rfl)
    (case aCF => first | k_is | rfl)
    (case aNC => first | k_is | rfl)
    (case aSE => first | k_is | rfl)
    (case ag0 => first | k_is | rfl)
    (case lg0 => first | k_is | rfl)
    (case cg0 => first | k_is | rfl)
    (case kg0 => first | k_is | rfl)
    (case ag1 => first | k_is | rfl)
    (case lg1 => first | k_is | rfl)
    (case cg1 => first | k_is | rfl)
    (case kg1 => first | k_is | rfl)
    (case ag2 => first | k_is | rfl)
    (case lg2 => first | k_is | rfl)
    (case cg2 => first | k_is | rfl)
    (case kg2 => first | k_is | rfl)
    (case ag3 => first | k_is | rfl)
    (case lg3 => first | k_is | rfl)
    (case cg3 => first | k_is | rfl)
    (case kg3 => first | k_is | rfl)
    (case ag4 => first | k_is | rfl)
    (case lg4 => first | k_is | rfl)
    (case cg4 => first | k_is | rfl)
    (case kg4 => first | k_is | rfl)
    (case ag5 => first | k_is | rfl)
    (case lg5 => first | k_is | rfl)
    (case cg5 => first | k_is | rfl)
    (case kg5 => first | k_is | rfl)
    (case ag6 => first | k_is | rfl)
    (case lg6 => first | k_is | rfl)
    (case cg6 => first | k_is | rfl)
    (case kg6 => first | k_is | rfl)
    (case ag7 => first | k_is | rfl)
    (case lg7 => first | k_is | rfl)
    (case cg7 => first | k_is | rfl)
    (case kg7 => first | k_is | rfl)
    (case ag8 => first | k_is | rfl)
    (case lg8 => first | k_is | rfl)
    (case cg8 => first | k_is | rfl)
    (case kg8 => first | k_is | rfl)
    (case ag9 => first | k_is | rfl)
    (case lg9 => first | k_is | rfl)
    (case cg9 => first | k_is | rfl)
    (case kg9 => first | k_is | rfl)
    (case ag10 => first | k_is | rfl)
    (case lg10 => first | k_is | rfl)
    (case cg10 => first | k_is | rfl)
    (case kg10 => first | k_is | rfl)
    (case ag11 => first | k_is | rfl)
    (case lg11 => first | k_is | rfl)
    (case cg11 => first | k_is | rfl)
    (case kg11 => first | k_is | rfl)
    (case ag12 => first | k_is | rfl)
    (case lg12 => first | k_is | rfl)
    (case cg12 => first | k_is | rfl)
    (case kg12 => first | k_is | rfl)
    (case ag13 => first | k_is | rfl)
    (case lg13 => first | k_is | rfl)
    (case cg13 => first | k_is | rfl)
    (case kg13 => first | k_is | rfl)
    (case ag14 => first | k_is | rfl)
    (case lg14 => first | k_is | rfl)
    (case cg14 => first | k_is | rfl)
    (case kg14 => first | k_is | rfl)
    (case ag15 => first | k_is | rfl)
    (case lg15 => first | k_is | rfl)
    (case cg15 => first | k_is | rfl)
    (case kg15 => first | k_is | rfl)
    (case ag16 => first | k_is | rfl)
    (case lg16 => first | k_is | rfl)
    (case cg16 => first | k_is | rfl)
    (case kg16 => first | k_is | rfl)
    (case ag17 => first | k_is | rfl)
    (case lg17 => first | k_is | rfl)
    (case cg17 => first | k_is | rfl)
    (case kg17 => first | k_is | rfl)
    (case ag18 => first | k_is | rfl)
    (case lg18 => first | k_is | rfl)
    (case cg18 => first | k_is | rfl)
    (case kg18 => first | k_is | rfl)
    (case ag19 => first | k_is | rfl)
    (case lg19 => first | k_is | rfl)
    (case cg19 => first | k_is | rfl)
    (case kg19 => first | k_is | rfl)
    (case ag20 => first | k_is | rfl)
    (case lg20 => first | k_is | rfl)
    (case cg20 => first | k_is | rfl)
    (case kg20 => first | k_is | rfl)
    (case ag21 => first | k_is | rfl)
    (case lg21 => first | k_is | rfl)
    (case cg21 => first | k_is | rfl)
    (case kg21 => first | k_is | rfl)
    (case ag22 => first | k_is | rfl)
    (case lg22 => first | k_is | rfl)
    (case cg22 => first | k_is | rfl)
    (case kg22 => first | k_is | rfl)
    (case ag23 => first | k_is | rfl)
    (case lg23 => first | k_is | rfl)
    (case cg23 => first | k_is | rfl)
    (case kg23 => first | k_is | rfl)
    (case ag24 => first | k_is | rfl)
    (case lg24 => first | k_is | rfl)
    (case cg24 => first | k_is | rfl)
    (case kg24 => first | k_is | rfl)
    (case ag25 => first | k_is | rfl)
    (case lg25 => first | k_is | rfl)
    (case cg25 => first | k_is | rfl)
    (case kg25 => first | k_is | rfl)
    (case ag26 => first | k_is | rfl)
    (case lg26 => first | k_is | rfl)
    (case cg26 => first | k_is | rfl)
    (case kg26 => first | k_is | rfl)
    (case ag27 => first | k_is | rfl)
    (case lg27 => first | k_is | rfl)
    (case cg27 => first | k_is | rfl)
    (case kg27 => first | k_is | rfl)
    (case ag28 => first | k_is | rfl)
    (case lg28 => first | k_is | rfl)
    (case cg28 => first | k_is | rfl)
    (case kg28 => first | k_is | rfl)
    (case ag29 => first | k_is | rfl)
    (case lg29 => first | k_is | rfl)
    (case cg29 => first | k_is | rfl)
    (case kg29 => first | k_is | rfl)
    (case ag30 => first | k_is | rfl)
    (case lg30 => first | k_is | rfl)
    (case cg30 => first | k_is | rfl)
    (case kg30 => first | k_is | rfl)
    (case ag31 => first | k_is | rfl)
    (case lg31 => first | k_is | rfl)
    (case cg31 => first | k_is | rfl)
    (case kg31 => first | k_is | rfl)
    (case ag32 => first | k_is | rfl)
    (case lg32 => first | k_is | rfl)
    (case cg32 => first | k_is | rfl)
    (case kg32 => first | k_is | rfl)
    (case ag33 => first | k_is | rfl)
    (case lg33 => first | k_is | rfl)
    (case cg33 => first | k_is | rfl)
    (case kg33 => first | k_is | rfl)
    (case ag34 => first | k_is | rfl)
    (case lg34 => first | k_is | rfl)
    (case cg34 => first | k_is | rfl)
    (case kg34 => first | k_is | rfl)
    (case ag35 => first | k_is | rfl)
    (case lg35 => first | k_is | rfl)
    (case cg35 => first | k_is | rfl)
    (case kg35 => first | k_is | rfl)
    (case ag36 => first | k_is | rfl)
    (case lg36 => first | k_is | rfl)
    (case cg36 => first | k_is | rfl)
    (case kg36 => first | k_is | rfl)
    (case ag37 => first | k_is | rfl)
    (case lg37 => first | k_is | rfl)
    (case cg37 => first | k_is | rfl)
    (case kg37 => first | k_is | rfl)
    (case ag38 => first | k_is | rfl)
    (case lg38 => first | k_is | rfl)
    (case cg38 => first | k_is | rfl)
    (case kg38 => first | k_is | rfl)
    (case ag39 => first | k_is | rfl)
    (case lg39 => first | k_is | rfl)
    (case cg39 => first | k_is | rfl)
    (case kg39 => first | k_is | rfl)
    (case aW => first | k_is | rfl)
    (case lW => first | k_is | rfl)
    (case lT => first | k_is | rfl)
    (case cW => first | k_is | rfl)
    (case kW => first | k_is | rfl)
    (case am0 => first | k_is | rfl)
    (case im0 => first | k_is | rfl)
    (case lm0 => first | k_is | rfl)
    (case cm0 => first | k_is | rfl)
    (case km0 => first | k_is | rfl)
    (case am1 => first | k_is | rfl)
    (case im1 => first | k_is | rfl)
    (case lm1 => first | k_is | rfl)
    (case cm1 => first | k_is | rfl)
    (case km1 => first | k_is | rfl)
    (case am2 => first | k_is | rfl)
    (case im2 => first | k_is | rfl)
    (case lm2 => first | k_is | rfl)
    (case cm2 => first | k_is | rfl)
    (case km2 => first | k_is | rfl)
    (case am3 => first | k_is | rfl)
    (case im3 => first | k_is | rfl)
    (case lm3 => first | k_is | rfl)
    (case cm3 => first | k_is | rfl)
    (case km3 => first | k_is | rfl)
    (case am4 => first | k_is | rfl)
    (case im4 => first | k_is | rfl)
    (case lm4 => first | k_is | rfl)
    (case cm4 => first | k_is | rfl)
    (case km4 => first | k_is | rfl)
    (case am5 => first | k_is | rfl)
    (case im5 => first | k_is | rfl)
    (case lm5 => first | k_is | rfl)
    (case cm5 => first | k_is | rfl)
    (case km5 => first | k_is | rfl)
    (case am6 => first | k_is | rfl)
    (case im6 => first | k_is | rfl)
    (case lm6 => first | k_is | rfl)
    (case cm6 => first | k_is | rfl)
    (case km6 => first | k_is | rfl)
    (case am7 => first | k_is | rfl)
    (case im7 => first | k_is | rfl)
    (case lm7 => first | k_is | rfl)
    (case cm7 => first | k_is | rfl)
    (case km7 => first | k_is | rfl)
    (case am8 => first | k_is | rfl)
    (case im8 => first | k_is | rfl)
    (case lm8 => first | k_is | rfl)
    (case cm8 => first | k_is | rfl)
    (case km8 => first | k_is | rfl)
    (case ai0 => first | k_is | rfl)
    (case ii0 => first | k_is | rfl)
    (case li0 => first | k_is | rfl)
    (case ci0 => first | k_is | rfl)
    (case ki0 => first | k_is | rfl)
    (case mki0 => first | k_is | rfl)
    (case kci0 => first | k_is | rfl)
    (case ai1 => first | k_is | rfl)
    (case ii1 => first | k_is | rfl)
    (case li1 => first | k_is | rfl)
    (case ci1 => first | k_is | rfl)
    (case ki1 => first | k_is | rfl)
    (case mki1 => first | k_is | rfl)
    (case kci1 => first | k_is | rfl)
    (case pgCR => first | k_is | rfl)
    (case hdCR => first | k_is | rfl)
    (case poCR => first | k_is | rfl)
    (case saCR => first | k_is | rfl)
    (case pgCF => first | k_is | rfl)
    (case hdCF => first | k_is | rfl)
    (case poCF => first | k_is | rfl)
    (case saCF => first | k_is | rfl)
    (case n_rp => first | k_is | rfl)
    (case n_rz => first | k_is | rfl)
    (case n_ro => first | k_is | rfl)
    (case n_rm => first | k_is | rfl)
    (case n_fz => first | k_is | rfl)
    (case n_fo => first | k_is | rfl)
    (case n_fm => first | k_is | rfl)
    (case z_len => first | k_is | rfl)
    (case z_abs => first | k_is | rfl)
    (case z_int => first | k_is | rfl)
    (case z_tuple => first | k_is | rfl)
    (case z_list => first | k_is | rfl)
    (case z_zip => first | k_is | rfl)
    (case z_range => first | k_is | rfl)
    (case z_enumerate => first | k_is | rfl)
    (case z_divmod => first | k_is | rfl)
    (case z_isinstance => first | k_is | rfl)
    (case z_repr => first | k_is | rfl)
    (case z_bool => first | k_is | rfl)
    (case aMP => first | k_is | rfl)
    (case zVE => first | k_is | rfl)
    (case xga => first | k_is | rfl)
    (case xgg => first | k_is | rfl)
    (case xsb => first | k_is | rfl)
    (case xhd => first | k_is | rfl)
    (case xcl => first | k_is | rfl)
    (case xgt => first | k_is | rfl)
    (case xtk => first | k_is | rfl)
    (case xmr => first | k_is | rfl)
    (case xk2 => first | k_is | rfl)
    (case s1 => first | k_is | rfl)
    (case s2 => first | k_is | rfl)
    (case s3 => first | k_is | rfl)
    (case s4 => first | k_is | rfl)
    (case xL => first | k_is | rfl)
    (case xsa => first | k_is | rfl)
    (case xty => first | k_is | rfl)
    (case xkc => first | k_is | rfl)
    (case p1 => first | k_is | rfl)
    (case p2 => first | k_is | rfl)
    (case p3 => first | k_is | rfl)
    (case aNI => first | k_is | rfl)
    (case tNI => first | k_is | rfl)
    (case lNI => first | k_is | rfl)
    (case cNI => first | k_is | rfl)
    (case kNI => first | k_is | rfl)
#print axioms PySem.Challenge.cw_sheetproofs_k26_whole_ranks_weights_and_holds

end

