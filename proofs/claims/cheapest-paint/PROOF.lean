import PyProof.Rows.All
import Wide.All
import OpenK.AllK
import Wide.FinOn
import HandS.ForMost
import KE.KeyNested
import KE.KDictWalk
import HandS.SortKw
import KE.KDictSum
import KE.SortKeyHeap
import PyProof.ReprRoads
import HandS.TupAny
import HandS.TupMul
import HandS.IsInst
import HandS.Zip
import HandS.Strs
import HandS.SetFor
import HandS.SortInts
import KE.DataMinMax
import KE.Datum
import PyProof.Claim2Refuses
import HandS.Style
import HandS.Steps
import KE.GoesMore
import KE.GoesEnum
import PyProof.AssignAttr
import HandS.Conv
import PySem.Challenge.RW_flankturns_k26_whole_cheapest_paint
/-! The plain law, part A: values (cost, colours), the least of a set, one table over keys. -/
namespace Flk

abbrev Val := Int × List Int
/-- the order of pairs (cost, colours) -/
def vle (a b : Val) : Prop := a.1 < b.1 ∨ (a.1 = b.1 ∧ a.2 ≤ b.2)
def vlt (a b : Val) : Prop := a.1 < b.1 ∨ (a.1 = b.1 ∧ a.2 < b.2)
instance (a b : Val) : Decidable (vle a b) := by unfold vle; infer_instance
instance (a b : Val) : Decidable (vlt a b) := by unfold vlt; infer_instance

theorem vle_refl (a : Val) : vle a a := .inr ⟨rfl, List.le_refl _⟩
theorem vle_trans {a b c : Val} (h : vle a b) (k : vle b c) : vle a c := by
  rcases h with h | ⟨h, h'⟩
  · rcases k with k | ⟨k, k'⟩
    · exact .inl (by omega)
    · exact .inl (by omega)
  · rcases k with k | ⟨k, k'⟩
    · exact .inl (by omega)
    · exact .inr ⟨by omega, List.le_trans h' k'⟩
theorem vle_antisymm {a b : Val} (h : vle a b) (k : vle b a) : a = b := by
  obtain ⟨a1, a2⟩ := a
  obtain ⟨b1, b2⟩ := b
  rcases h with h | ⟨h, h'⟩
  · rcases k with k | ⟨k, k'⟩
    · simp only at h k; omega
    · simp only at h k; omega
  · rcases k with k | ⟨k, k'⟩
    · simp only at h k; omega
    · simp only at h h' k'
      rw [h, List.le_antisymm h' k']
theorem not_vlt {a b : Val} : ¬ vlt a b ↔ vle b a := by
  unfold vlt vle
  constructor
  · intro h
    rcases Int.lt_trichotomy a.1 b.1 with q | q | q
    · exact absurd (.inl q) h
    · exact .inr ⟨q.symm, List.not_lt.mp fun z => h (.inr ⟨q, z⟩)⟩
    · exact .inl q
  · rintro (h | ⟨h, h'⟩) (k | ⟨k, k'⟩)
    · omega
    · omega
    · omega
    · exact absurd k' (List.not_lt.mpr h')
theorem vle_of_vlt {a b : Val} (h : vlt a b) : vle a b := by
  rcases h with h | ⟨h, h'⟩
  · exact .inl h
  · exact .inr ⟨h, Std.le_of_lt h'⟩

/-- Python's min(one, other) -/
def vmin (one other : Val) : Val := if vlt other one then other else one
theorem vmin_le_left (a b : Val) : vle (vmin a b) a := by
  unfold vmin
  split
  · exact vle_of_vlt ‹_›
  · exact vle_refl _
theorem vmin_le_right (a b : Val) : vle (vmin a b) b := by
  unfold vmin
  split
  · exact vle_refl _
  · exact not_vlt.mp ‹_›
theorem vmin_cases (a b : Val) : vmin a b = a ∨ vmin a b = b := by
  unfold vmin
  split
  · exact .inr rfl
  · exact .inl rfl

/-- r is the least of the set S, none where it is empty -/
def IsBest (S : Val → Prop) : Option Val → Prop
  | none => ∀ v, ¬ S v
  | some v => S v ∧ ∀ v', S v' → vle v v'
theorem IsBest.unique {S T : Val → Prop} {a b : Option Val} (h : IsBest S a) (k : IsBest T b) (e : ∀ v, S v ↔ T v) : a = b := by
  cases a with
  | none =>
    cases b with
    | none => rfl
    | some b => exact absurd ((e b).mpr k.1) (h b)
  | some a =>
    cases b with
    | none => exact absurd ((e a).mp h.1) (k a)
    | some b => rw [vle_antisymm (h.2 b ((e b).mpr k.1)) (k.2 a ((e a).mp h.1))]
/-- the least of a list, taken one by one -/
def bestOf : Option Val → List Val → Option Val
  | o, [] => o
  | none, v :: r => bestOf (some v) r
  | some a, v :: r => bestOf (some (vmin a v)) r
theorem bestOf_some : ∀ (l : List Val) (a : Val), ∃ v, bestOf (some a) l = some v ∧ (v = a ∨ v ∈ l) ∧ vle v a ∧ ∀ x ∈ l, vle v x
  | [], a => ⟨a, rfl, .inl rfl, vle_refl _, fun _ h => nomatch h⟩
  | b :: l, a => by
    obtain ⟨v, e, m, h1, h2⟩ := bestOf_some l (vmin a b)
    refine ⟨v, e, ?_, vle_trans h1 (vmin_le_left _ _), fun x hx => ?_⟩
    · rcases m with m | m
      · rcases vmin_cases a b with q | q
        · exact .inl (m.trans q)
        · exact .inr (by rw [m, q]; exact List.mem_cons_self)
      · exact .inr (List.mem_cons_of_mem _ m)
    · rcases List.mem_cons.mp hx with rfl | hx
      · exact vle_trans h1 (vmin_le_right _ _)
      · exact h2 x hx
theorem bestOf_best (l : List Val) : IsBest (· ∈ l) (bestOf none l) := by
  cases l with
  | nil => intro v h; cases h
  | cons a l =>
    obtain ⟨v, e, m, h1, h2⟩ := bestOf_some l a
    show IsBest _ (bestOf (some a) l)
    rw [e]
    refine ⟨?_, fun x hx => ?_⟩
    · rcases m with rfl | m
      · exact List.mem_cons_self
      · exact List.mem_cons_of_mem _ m
    · rcases List.mem_cons.mp hx with rfl | hx
      · exact h1
      · exact h2 x hx
theorem bestOf_snoc (o : Option Val) (l : List Val) (v : Val) : bestOf o (l ++ [v]) = some (match bestOf o l with | none => v | some a => vmin a v) := by
  induction l generalizing o with
  | nil => cases o <;> rfl
  | cons b l ih => cases o <;> exact ih _

/-! ### lists of one length, in order -/
theorem le_append_right {a b : List Int} (h : a ≤ b) (hl : a.length = b.length) (c : List Int) : a ++ c ≤ b ++ c := by
  induction a generalizing b with
  | nil =>
    cases b with
    | nil => exact List.le_refl _
    | cons x b => simp at hl
  | cons x a ih =>
    cases b with
    | nil => simp at hl
    | cons y b =>
      rw [List.cons_le_cons_iff] at h
      show x :: (a ++ c) ≤ y :: (b ++ c)
      rw [List.cons_le_cons_iff]
      rcases h with h | ⟨h, h'⟩
      · exact .inl h
      · exact .inr ⟨h, ih h' (by simpa using hl)⟩
theorem le_of_append_right {a b : List Int} (hl : a.length = b.length) (c : List Int) (h : a ++ c ≤ b ++ c) : a ≤ b := by
  rcases List.le_total a b with k | k
  · exact k
  · have := List.le_antisymm h (le_append_right k hl.symm c)
    rw [List.append_cancel_right this]
    exact List.le_refl _
theorem le_append_left (c : List Int) {a b : List Int} (h : a ≤ b) : c ++ a ≤ c ++ b := by
  induction c with
  | nil => exact h
  | cons x c ih =>
    show x :: (c ++ a) ≤ x :: (c ++ b)
    rw [List.cons_le_cons_iff]
    exact .inr ⟨rfl, ih⟩

/-! ### one table: keys, steps, paths -/
/-- a key: the cell before and the cell itself -/
abbrev KK := Option Int × Int
/-- a step: where to, the key there, the price, the colours -/
structure Stp where
  there : Nat
  key : KK
  dc : Int
  cs : List Int
def Val.plus (v : Val) (s : Stp) : Val := (v.1 + s.dc, v.2 ++ s.cs)
theorem plus_mono {a b : Val} (h : vle a b) (hl : a.2.length = b.2.length) (s : Stp) : vle (Val.plus a s) (Val.plus b s) := by
  rcases h with h | ⟨h, h'⟩
  · exact .inl (by show a.1 + s.dc < b.1 + s.dc; omega)
  · exact .inr ⟨by show a.1 + s.dc = b.1 + s.dc; omega, le_append_right h' hl _⟩

inductive Pth (start : KK → Val → Prop) (stp : Nat → KK → List Stp) : Nat → KK → Val → Prop
  | start {k v} : start k v → Pth start stp 0 k v
  | step {p k v s} : Pth start stp p k v → s ∈ stp p k → Pth start stp s.there s.key (Val.plus v s)

/-- the state of the tables: the value at a place and a key -/
abbrev Tabs := Nat → KK → Option Val
def putR (R : Tabs) (q : Nat) (k : KK) (v : Val) : Tabs := fun p j =>
  if p = q ∧ j = k then some (match R q k with | none => v | some a => vmin a v) else R p j
structure TI (start : KK → Val → Prop) (stp : Nat → KK → List Stp) (fired : Nat → KK → Stp → Prop) (begun : KK → Val → Prop) (R : Tabs) : Prop where
  sound : ∀ p k v, R p k = some v → Pth start stp p k v
  init : ∀ k v, begun k v → ∃ v', R 0 k = some v' ∧ vle v' v
  done : ∀ p k s v, fired p k s → R p k = some v → ∃ v', R s.there s.key = some v' ∧ vle v' (Val.plus v s)
section
variable {start : KK → Val → Prop} {stp : Nat → KK → List Stp} {fired : Nat → KK → Stp → Prop} {begun : KK → Val → Prop} {R : Tabs}
theorem TI.empty : TI start stp (fun _ _ _ => False) (fun _ _ => False) (fun _ _ => none) :=
  ⟨fun _ _ _ e => (nomatch e), fun _ _ h => h.elim, fun _ _ _ _ h _ => h.elim⟩
theorem putR_same (R : Tabs) (q : Nat) (k : KK) (v : Val) : ∃ w, putR R q k v q k = some w ∧ vle w v ∧ (w = v ∨ R q k = some w) ∧ ∀ a, R q k = some a → vle w a := by
  unfold putR
  rw [if_pos ⟨rfl, rfl⟩]
  cases e : R q k with
  | none => exact ⟨v, rfl, vle_refl _, .inl rfl, fun _ h => nomatch h⟩
  | some a =>
    refine ⟨vmin a v, rfl, vmin_le_right _ _, ?_, fun b h => by cases h; exact vmin_le_left _ _⟩
    rcases vmin_cases a v with q | q
    · exact .inr (by rw [q])
    · exact .inl q
theorem putR_ne (R : Tabs) {q p : Nat} {k j : KK} (v : Val) (h : ¬ (p = q ∧ j = k)) : putR R q k v p j = R p j := if_neg h
/-- an entry never gets worse -/
theorem putR_le {R : Tabs} {q : Nat} {k : KK} {v : Val} {p : Nat} {j : KK} {a : Val} (h : R p j = some a) : ∃ b, putR R q k v p j = some b ∧ vle b a := by
  by_cases e : p = q ∧ j = k
  · obtain ⟨rfl, rfl⟩ := e
    obtain ⟨w, e, _, _, h'⟩ := putR_same R p j v
    exact ⟨w, e, h' a h⟩
  · exact ⟨a, by rw [putR_ne _ _ e]; exact h, vle_refl _⟩
/-- a start is put in -/
theorem TI.begin (T : TI start stp fired begun R) {k : KK} {v : Val} (hs : start k v) (nf : ∀ p j s, fired p j s → 0 < p) : TI start stp fired (fun j a => begun j a ∨ (j = k ∧ a = v)) (putR R 0 k v) := by
  obtain ⟨w, e, h1, h2, h3⟩ := putR_same R 0 k v
  refine ⟨fun p j a h => ?_, fun j a h => ?_, fun p j s a hf h => ?_⟩
  · by_cases q : p = 0 ∧ j = k
    · obtain ⟨rfl, rfl⟩ := q
      rw [e] at h; cases h
      rcases h2 with rfl | h2
      · exact .start hs
      · exact T.sound _ _ _ h2
    · rw [putR_ne _ _ q] at h; exact T.sound _ _ _ h
  · rcases h with h | ⟨rfl, rfl⟩
    · obtain ⟨b, hb, l⟩ := T.init j a h
      obtain ⟨b', hb', l'⟩ := putR_le (q := 0) (k := k) (v := v) hb
      exact ⟨b', hb', vle_trans l' l⟩
    · exact ⟨w, e, h1⟩
  · have np : ¬ (p = 0 ∧ j = k) := fun z => by have := nf _ _ _ hf; omega
    rw [putR_ne _ _ np] at h
    obtain ⟨b, hb, l⟩ := T.done p j s a hf h
    obtain ⟨b', hb', l'⟩ := putR_le (q := 0) (k := k) (v := v) hb
    exact ⟨b', hb', vle_trans l' l⟩
/-- a step is put in: no source that has fired, nor this one, stands at the place that changes -/
theorem TI.put (T : TI start stp fired begun R) {p : Nat} {k : KK} {v : Val} {s : Stp} (hv : R p k = some v) (hs : s ∈ stp p k) (hlt : p < s.there) (nf : ∀ q j t, fired q j t → q < s.there) :
    TI start stp (fun q j t => fired q j t ∨ (q = p ∧ j = k ∧ t = s)) begun (putR R s.there s.key (Val.plus v s)) := by
  obtain ⟨w, e, h1, h2, h3⟩ := putR_same R s.there s.key (Val.plus v s)
  refine ⟨fun q j a h => ?_, fun j a h => ?_, fun q j t a hf h => ?_⟩
  · by_cases z : q = s.there ∧ j = s.key
    · obtain ⟨rfl, rfl⟩ := z
      rw [e] at h; cases h
      rcases h2 with rfl | h2
      · exact .step (T.sound _ _ _ hv) hs
      · exact T.sound _ _ _ h2
    · rw [putR_ne _ _ z] at h; exact T.sound _ _ _ h
  · obtain ⟨b, hb, l⟩ := T.init j a h
    obtain ⟨b', hb', l'⟩ := putR_le (q := s.there) (k := s.key) (v := Val.plus v s) hb
    exact ⟨b', hb', vle_trans l' l⟩
  · rcases hf with hf | ⟨rfl, rfl, rfl⟩
    · have np : ¬ (q = s.there ∧ j = s.key) := fun z => by have := nf _ _ _ hf; omega
      rw [putR_ne _ _ np] at h
      obtain ⟨b, hb, l⟩ := T.done q j t a hf h
      obtain ⟨b', hb', l'⟩ := putR_le (q := s.there) (k := s.key) (v := Val.plus v s) hb
      exact ⟨b', hb', vle_trans l' l⟩
    · have np : ¬ (q = t.there ∧ j = t.key) := fun z => by omega
      rw [putR_ne _ _ np, hv] at h
      cases h
      exact ⟨w, e, h1⟩
/-- fewer claims -/
theorem TI.mono (T : TI start stp fired begun R) {fired' : Nat → KK → Stp → Prop} {begun' : KK → Val → Prop} (hf : ∀ p k s, fired' p k s → fired p k s) (hb : ∀ k v, begun' k v → begun k v) : TI start stp fired' begun' R :=
  ⟨T.sound, fun k v h => T.init k v (hb k v h), fun p k s v h => T.done p k s v (hf p k s h)⟩
/-- a source without an entry fires by itself -/
theorem TI.fire (T : TI start stp fired begun R) {fired' : Nat → KK → Stp → Prop} (hf : ∀ p k s, fired' p k s → fired p k s ∨ R p k = none) : TI start stp fired' begun R :=
  ⟨T.sound, T.init, fun p k s v h e => by
    rcases hf p k s h with q | q
    · exact T.done p k s v q e
    · rw [q] at e; cases e⟩
/-- all sources below `last` have fired, all starts are in: each path has an entry that is no worse -/
theorem TI.complete (T : TI start stp fired begun R) {last : Nat} (hs : ∀ k v, start k v → begun k v) (hf : ∀ p k s, p < last → s ∈ stp p k → fired p k s) (hlt : ∀ p k s, s ∈ stp p k → p < s.there ∧ s.there ≤ last)
    (hlen : ∀ k v, start k v → v.2.length = 1) (hcs : ∀ p k s, s ∈ stp p k → s.cs.length = s.there - p) :
    ∀ p k v, Pth start stp p k v → p ≤ last ∧ v.2.length = p + 1 ∧ ∃ v', R p k = some v' ∧ vle v' v := by
  have len : ∀ p k v, Pth start stp p k v → v.2.length = p + 1 := by
    intro p k v h
    induction h with
    | start h => exact hlen _ _ h
    | step h hm ih =>
      show (_ ++ _ : List Int).length = _
      have := hcs _ _ _ hm
      have := (hlt _ _ _ hm).1
      rw [List.length_append, ih]
      omega
  intro p k v h
  induction h with
  | start h => exact ⟨Nat.zero_le _, hlen _ _ h, T.init _ _ (hs _ _ h)⟩
  | @step p k v s h hm ih =>
    obtain ⟨h1, h2, v', h3, h4⟩ := ih
    refine ⟨(hlt _ _ _ hm).2, len _ _ _ (.step h hm), ?_⟩
    have hp := (hlt _ _ _ hm)
    obtain ⟨b, hb, l⟩ := T.done p k s v' (hf p k s (by omega) hm) h3
    refine ⟨b, hb, vle_trans l (plus_mono h4 ?_ s)⟩
    rw [h2, len _ _ _ (T.sound _ _ _ h3)]
end
end Flk

/-! The plain law, part B: the paths of the table, seen as colours with depths. -/
namespace Flk

structure Tb where
  n : Nat
  held : Nat → Bool
  dom : Nat → List Int
  price : Nat → Int → Int
  suits : Nat → Int → Bool
  longest : Nat
def Tb.cell (T : Tb) (b j : Nat) : Nat := (b + j) % T.n
def altC (own other : Int) (i : Nat) : Int := if i % 2 = 0 then own else other
theorem altC_even {own other : Int} {i : Nat} (h : i % 2 = 0) : altC own other i = own := if_pos h
theorem altC_odd {own other : Int} {i : Nat} (h : i % 2 = 1) : altC own other i = other := if_neg (by omega)
theorem altC_par {own other : Int} {i j : Nat} (h : i % 2 = j % 2) : altC own other i = altC own other j := by
  unfold altC; rw [h]
theorem altC_ne {own other : Int} (h : other ≠ own) {i j : Nat} (k : i % 2 ≠ j % 2) : altC own other i ≠ altC own other j := by
  unfold altC
  by_cases a : i % 2 = 0
  · rw [if_pos a, if_neg (by omega)]; exact fun e => h e.symm
  · rw [if_neg a, if_pos (by omega)]; exact h
def Tb.still (T : Tb) (c : Nat) (before : Option Int) (own behind : Int) : Bool := T.held c || before == none || before != some behind || before == some own
/-- the tests of a stretch at one place, and its price -/
def Tb.strAt (T : Tb) (b place L : Nat) (own other : Int) (i : Nat) : Bool :=
  (T.dom (T.cell b (place + i))).contains (altC own other i) && !(decide (i < L - 1) && T.held (T.cell b (place + i))) && T.suits (T.cell b (place + i)) (if i ≤ L - 1 - i then own else altC own other (L - 1))
def Tb.strOk (T : Tb) (b place L : Nat) (own other : Int) : Bool := (List.range (L - 1)).all fun i => T.strAt b place L own other (i + 1)
def Tb.strPrice (T : Tb) (b place L : Nat) (own other : Int) : Int := ((List.range (L - 1)).map fun i => T.price (T.cell b (place + (i + 1))) (altC own other (i + 1))).sum
def strCols (L : Nat) (own other : Int) : List Int := (List.range (L - 1)).map fun i => altC own other (i + 1)
def Tb.stepL (T : Tb) (b place : Nat) (k : KK) (other : Int) (L : Nat) : Stp :=
  ⟨place + L - 1, (some (altC k.2 other (L - 2)), altC k.2 other (L - 1)), T.strPrice b place L k.2 other, strCols L k.2 other⟩
def Tb.stepsL (T : Tb) (b place : Nat) (k : KK) (other : Int) (L : Nat) : List Stp := if other != k.2 && T.strOk b place L k.2 other then [T.stepL b place k other L] else []
def Tb.steps1 (T : Tb) (b place : Nat) (k : KK) (other : Int) : List Stp :=
  if T.suits (T.cell b (place + 1)) other then [⟨place + 1, (some k.2, other), T.price (T.cell b (place + 1)) other, [other]⟩] else []
def Tb.lens (T : Tb) (last place : Nat) : List Nat := List.range' 3 (min T.longest (last - place + 1) + 1 - 3)
def Tb.stepsO (T : Tb) (b last : Nat) (first : Option Int) (place : Nat) (k : KK) (other : Int) : List Stp :=
  if (first == none || decide (0 < place) || first == some other) && T.still (T.cell b place) k.1 k.2 other then
    T.steps1 b place k other ++ (T.lens last place).flatMap (T.stepsL b place k other)
  else []
def Tb.steps (T : Tb) (b last : Nat) (first : Option Int) (place : Nat) (k : KK) : List Stp := (T.dom (T.cell b (place + 1))).flatMap (T.stepsO b last first place k)

def Tb.rdy (T : Tb) (b : Nat) (x : Nat → Int) (j : Nat) : Prop := T.held (T.cell b j) = false ∧ x (j - 1) = x (j + 1) ∧ x (j - 1) ≠ x j
structure Dep (T : Tb) (b : Nat) (x : Nat → Int) (p : Nat) (D : Nat → Nat) : Prop where
  z0 : D 0 = 0
  zp : D p = 0
  zr : ∀ j, 0 < j → j < p → (D j = 0 ↔ ¬ T.rdy b x j)
  st : ∀ j, 0 < j → j < p → D j ≠ 0 → D j = 1 + min (D (j - 1)) (D (j + 1))
def endc (x : Nat → Int) (D : Nat → Nat) (j : Nat) : Int := if D j % 2 = 0 then x j else x (j - 1)
def Tb.costTo (T : Tb) (b p : Nat) (x : Nat → Int) : Int := ((List.range p).map fun j => T.price (T.cell b j) (x j)).sum
structure Geo (T : Tb) (b : Nat) (first : Option Int) (p : Nat) (k : KK) (v : Val) (x : Nat → Int) (D : Nat → Nat) : Prop where
  dep : Dep T b x p D
  cols : v.2 = (List.range (p + 1)).map x
  cost : v.1 = T.costTo b (p + 1) x
  key : k = (if p = 0 then none else some (x (p - 1)), x p)
  dom : ∀ j, j ≤ p → x j ∈ T.dom (T.cell b j)
  fst : ∀ f, first = some f → 0 < p → x 1 = f
  suit : ∀ j, 1 ≤ j → j ≤ p → T.suits (T.cell b j) (endc x D j) = true

/-- the colours further on -/
def extX (p : Nat) (own other : Int) (x : Nat → Int) (j : Nat) : Int := if j ≤ p then x j else altC own other (j - p)
def extD (p L : Nat) (D : Nat → Nat) (j : Nat) : Nat := if j ≤ p then D j else min (j - p) (p + L - 1 - j)
theorem extX_le {p : Nat} {own other : Int} {x : Nat → Int} {j : Nat} (h : j ≤ p) : extX p own other x j = x j := if_pos h
theorem extX_ge {p : Nat} {own other : Int} {x : Nat → Int} {j : Nat} (e : x p = own) (h : p ≤ j) : extX p own other x j = altC own other (j - p) := by
  unfold extX
  split
  · have : j = p := by omega
    subst this
    rw [Nat.sub_self, altC_even (by rfl)]
    exact e
  · rfl
theorem extD_le {p L : Nat} {D : Nat → Nat} {j : Nat} (h : j ≤ p) : extD p L D j = D j := if_pos h
theorem extD_ge {p L : Nat} {D : Nat → Nat} {j : Nat} (e : D p = 0) (h : p ≤ j) : extD p L D j = min (j - p) (p + L - 1 - j) := by
  unfold extD
  split
  · have : j = p := by omega
    subst this
    omega
  · rfl

theorem range_split (p m : Nat) (f : Nat → Int) : (List.range (p + m)).map f = (List.range p).map f ++ (List.range m).map fun i => f (p + i) := by
  rw [List.range_add, List.map_append, List.map_map]
  rfl

theorem Geo.ext {T : Tb} {b : Nat} {first : Option Int} {p : Nat} {k : KK} {v : Val} {x : Nat → Int} {D : Nat → Nat} (g : Geo T b first p k v x D) {L : Nat} {other : Int} (hL : 2 ≤ L)
    (hst : T.still (T.cell b p) k.1 k.2 other = true) (hne : 3 ≤ L → other ≠ k.2) (hf : first = none ∨ 0 < p ∨ first = some other)
    (hat : ∀ i, 1 ≤ i → i < L → altC k.2 other i ∈ T.dom (T.cell b (p + i)) ∧ T.suits (T.cell b (p + i)) (if i ≤ L - 1 - i then k.2 else altC k.2 other (L - 1)) = true)
    (hh : ∀ i, 1 ≤ i → i < L - 1 → T.held (T.cell b (p + i)) = false) :
    Geo T b first (p + L - 1) (some (altC k.2 other (L - 2)), altC k.2 other (L - 1)) (v.1 + T.strPrice b p L k.2 other, v.2 ++ strCols L k.2 other) (extX p k.2 other x) (extD p L D) := by
  have hk : k = (if p = 0 then none else some (x (p - 1)), x p) := g.key
  have own : x p = k.2 := by rw [hk]
  have eg : ∀ {j}, p ≤ j → extX p k.2 other x j = altC k.2 other (j - p) := fun h => extX_ge own h
  have el : ∀ {j}, j ≤ p → extX p k.2 other x j = x j := fun h => extX_le h
  have dg : ∀ {j}, p ≤ j → extD p L D j = min (j - p) (p + L - 1 - j) := fun h => extD_ge g.dep.zp h
  have dl : ∀ {j}, j ≤ p → extD p L D j = D j := fun h => extD_le h
  refine ⟨⟨?_, ?_, fun j h1 h2 => ?_, fun j h1 h2 h3 => ?_⟩, ?_, ?_, ?_, fun j hj => ?_, fun f e hp => ?_, fun j h1 h2 => ?_⟩
  · rw [dl (Nat.zero_le _)]; exact g.dep.z0
  · rw [dg (by omega)]; omega
  · rcases Nat.lt_trichotomy j p with q | q | q
    · rw [dl (by omega), g.dep.zr j h1 q]
      unfold Tb.rdy
      rw [el (j := j - 1) (by omega), el (j := j + 1) (by omega), el (j := j) (by omega)]
    · subst q
      rw [dl (Nat.le_refl _), g.dep.zp]
      refine ⟨fun _ => ?_, fun _ => rfl⟩
      rintro ⟨r1, r2, r3⟩
      rw [el (j := j - 1) (by omega), eg (j := j + 1) (by omega)] at r2
      rw [el (j := j - 1) (by omega), el (j := j) (by omega)] at r3
      have e1 : j + 1 - j = 1 := by omega
      rw [e1, altC_odd (by rfl)] at r2
      have k1 : k.1 = some (x (j - 1)) := by rw [hk]; exact if_neg (by omega)
      unfold Tb.still at hst
      rw [r1, k1, ← own, r2] at hst
      rw [r2] at r3
      simp [r3] at hst
    · refine ⟨fun h => ?_, fun h => (h ?_).elim⟩
      · rw [dg (by omega)] at h; omega
      · refine ⟨?_, ?_, ?_⟩
        · have := hh (j - p) (by omega) (by omega)
          rw [show p + (j - p) = j by omega] at this
          exact this
        · rw [eg (by omega), eg (by omega)]
          exact altC_par (by omega)
        · rw [eg (by omega), eg (by omega)]
          exact altC_ne (hne (by omega)) (by omega)
  · rcases Nat.lt_trichotomy j p with q | q | q
    · rw [dl (by omega)] at h3 ⊢
      rw [dl (by omega), dl (by omega)]
      exact g.dep.st j h1 q h3
    · subst q
      rw [dl (Nat.le_refl _), g.dep.zp] at h3
      exact absurd rfl h3
    · rw [dg (by omega), dg (by omega), dg (by omega)]
      omega
  · show v.2 ++ strCols L k.2 other = _
    rw [show p + L - 1 + 1 = (p + 1) + (L - 1) by omega, range_split, g.cols]
    congr 1
    · exact List.map_congr_left fun j hj => (el (by have := List.mem_range.mp hj; omega)).symm
    · refine List.map_congr_left fun j hj => ?_
      show altC k.2 other (j + 1) = extX p k.2 other x (p + 1 + j)
      rw [eg (by omega)]
      congr 1
      omega
  · show v.1 + T.strPrice b p L k.2 other = _
    unfold Tb.costTo
    rw [show p + L - 1 + 1 = (p + 1) + (L - 1) by omega, range_split, List.sum_append, g.cost]
    congr 1
    · unfold Tb.costTo
      congr 1
      refine List.map_congr_left fun j hj => ?_
      rw [el (by have := List.mem_range.mp hj; omega)]
    · unfold Tb.strPrice
      congr 1
      refine List.map_congr_left fun j hj => ?_
      show T.price (T.cell b (p + (j + 1))) (altC k.2 other (j + 1)) = T.price (T.cell b (p + 1 + j)) (extX p k.2 other x (p + 1 + j))
      rw [eg (by omega), show p + (j + 1) = p + 1 + j by omega, show p + 1 + j - p = j + 1 by omega]
  · rw [if_neg (by omega), eg (by omega), eg (by omega)]
    have a1 : p + L - 1 - 1 - p = L - 2 := by omega
    have a2 : p + L - 1 - p = L - 1 := by omega
    rw [a1, a2]
  · by_cases q : j ≤ p
    · rw [el q]; exact g.dom j q
    · rw [eg (by omega)]
      have := (hat (j - p) (by omega) (by omega)).1
      rw [show p + (j - p) = j by omega] at this
      exact this
  · rcases Nat.eq_zero_or_pos p with q | q
    · subst q
      rw [eg (by omega)]
      rcases hf with hf | hf | hf
      · rw [hf] at e; cases e
      · omega
      · rw [hf] at e; cases e
        exact altC_odd (by rfl)
    · rw [el (by omega)]; exact g.fst f e q
  · by_cases q : j ≤ p
    · have e : endc (extX p k.2 other x) (extD p L D) j = endc x D j := by
        unfold endc
        rw [dl q, el q, el (by omega)]
      rw [e]; exact g.suit j h1 q
    · have hs := (hat (j - p) (by omega) (by omega)).2
      rw [show p + (j - p) = j by omega] at hs
      have e : endc (extX p k.2 other x) (extD p L D) j = (if j - p ≤ L - 1 - (j - p) then k.2 else altC k.2 other (L - 1)) := by
        unfold endc
        rw [dg (by omega), eg (by omega), eg (by omega)]
        split
        · rename_i hd
          split
          · rename_i hm
            exact altC_even (by omega)
          · rename_i hm
            exact altC_par (by omega)
        · rename_i hd
          split
          · rename_i hm
            exact altC_even (by omega)
          · rename_i hm
            exact altC_par (by omega)
      rw [e]; exact hs

theorem strOk_iff {T : Tb} {b p L : Nat} {own other : Int} : T.strOk b p L own other = true ↔ ∀ i, 1 ≤ i → i < L → T.strAt b p L own other i = true := by
  unfold Tb.strOk
  rw [List.all_eq_true]
  constructor
  · intro h i h1 h2
    have := h (i - 1) (List.mem_range.mpr (by omega))
    rw [show i - 1 + 1 = i by omega] at this
    exact this
  · intro h i hi
    exact h (i + 1) (by omega) (by have := List.mem_range.mp hi; omega)
theorem strAt_iff {T : Tb} {b p L : Nat} {own other : Int} {i : Nat} : T.strAt b p L own other i = true ↔ altC own other i ∈ T.dom (T.cell b (p + i)) ∧ (i < L - 1 → T.held (T.cell b (p + i)) = false) ∧
    T.suits (T.cell b (p + i)) (if i ≤ L - 1 - i then own else altC own other (L - 1)) = true := by
  unfold Tb.strAt
  simp only [Bool.and_eq_true, List.contains_iff_mem, Bool.not_eq_true', Bool.and_eq_false_iff, decide_eq_false_iff_not]
  constructor
  · rintro ⟨⟨h1, h2⟩, h3⟩
    exact ⟨h1, fun q => h2.resolve_left (fun z => z q), h3⟩
  · rintro ⟨h1, h2, h3⟩
    refine ⟨⟨h1, ?_⟩, h3⟩
    by_cases q : i < L - 1
    · exact .inr (h2 q)
    · exact .inl q
theorem mem_lens {T : Tb} {last place L : Nat} : L ∈ T.lens last place ↔ 3 ≤ L ∧ L ≤ T.longest ∧ L ≤ last - place + 1 := by
  unfold Tb.lens
  rw [List.mem_range'_1]
  omega
theorem mem_steps {T : Tb} {b last : Nat} {first : Option Int} {place : Nat} {k : KK} {s : Stp} : s ∈ T.steps b last first place k ↔
    ∃ other, other ∈ T.dom (T.cell b (place + 1)) ∧ (first = none ∨ 0 < place ∨ first = some other) ∧ T.still (T.cell b place) k.1 k.2 other = true ∧
      ((T.suits (T.cell b (place + 1)) other = true ∧ s = ⟨place + 1, (some k.2, other), T.price (T.cell b (place + 1)) other, [other]⟩) ∨
        ∃ L, 3 ≤ L ∧ L ≤ T.longest ∧ L ≤ last - place + 1 ∧ other ≠ k.2 ∧ T.strOk b place L k.2 other = true ∧ s = T.stepL b place k other L) := by
  unfold Tb.steps
  rw [List.mem_flatMap]
  refine exists_congr fun other => and_congr_right fun _ => ?_
  unfold Tb.stepsO
  split
  · rename_i h
    simp only [Bool.and_eq_true, Bool.or_eq_true, beq_iff_eq, decide_eq_true_eq] at h
    have h1 : first = none ∨ 0 < place ∨ first = some other := by
      rcases h.1 with (h | h) | h
      · exact .inl h
      · exact .inr (.inl h)
      · exact .inr (.inr h)
    rw [List.mem_append, List.mem_flatMap]
    refine ⟨fun q => ⟨h1, h.2, ?_⟩, fun q => ?_⟩
    · rcases q with q | ⟨L, hL, q⟩
      · refine .inl ?_
        unfold Tb.steps1 at q
        split at q
        · exact ⟨‹_›, List.mem_singleton.mp q⟩
        · cases q
      · refine .inr ⟨L, ?_⟩
        obtain ⟨l1, l2, l3⟩ := mem_lens.mp hL
        unfold Tb.stepsL at q
        split at q
        · rename_i z
          simp only [Bool.and_eq_true, bne_iff_ne] at z
          exact ⟨l1, l2, l3, z.1, z.2, List.mem_singleton.mp q⟩
        · cases q
    · rcases q.2.2 with ⟨q1, q2⟩ | ⟨L, l1, l2, l3, l4, l5, q⟩
      · refine .inl ?_
        unfold Tb.steps1
        rw [if_pos q1]
        exact List.mem_singleton.mpr q2
      · refine .inr ⟨L, mem_lens.mpr ⟨l1, l2, l3⟩, ?_⟩
        unfold Tb.stepsL
        rw [if_pos (by simp [l4, l5])]
        exact List.mem_singleton.mpr q
  · rename_i h
    refine ⟨fun q => (nomatch q), fun q => (h ?_).elim⟩
    simp only [Bool.and_eq_true, Bool.or_eq_true, beq_iff_eq, decide_eq_true_eq]
    refine ⟨?_, q.2.1⟩
    rcases q.1 with q | q | q
    · exact .inl (.inl q)
    · exact .inl (.inr q)
    · exact .inr q
theorem steps_lt {T : Tb} {b last : Nat} {first : Option Int} {place : Nat} {k : KK} {s : Stp} (h : s ∈ T.steps b last first place k) (hp : place < last) : place < s.there ∧ s.there ≤ last ∧ s.cs.length = s.there - place := by
  obtain ⟨other, _, _, _, q | ⟨L, l1, l2, l3, _, _, q⟩⟩ := mem_steps.mp h
  · rw [q.2]
    refine ⟨Nat.lt_succ_self _, hp, ?_⟩
    show 1 = place + 1 - place
    omega
  · rw [q]
    show place < place + L - 1 ∧ place + L - 1 ≤ last ∧ (strCols L k.2 other).length = place + L - 1 - place
    unfold strCols
    rw [List.length_map, List.length_range]
    omega
/-- a step further -/
theorem Geo.step {T : Tb} {b last : Nat} {first : Option Int} {p : Nat} {k : KK} {v : Val} {x : Nat → Int} {D : Nat → Nat} (g : Geo T b first p k v x D) {s : Stp} (h : s ∈ T.steps b last first p k) :
    ∃ y E, Geo T b first s.there s.key (Val.plus v s) y E ∧ y 0 = x 0 ∧ (p + 2 ≤ s.there → ∀ j, p < j → j < s.there → E j ≠ 0) ∧ (∀ j, p ≤ j → j ≤ s.there → y j = altC (x p) (y (p + 1)) (j - p)) := by
  obtain ⟨other, hd, hf, hst, q | ⟨L, l1, l2, l3, hne, hok, q⟩⟩ := mem_steps.mp h
  · have own : x p = k.2 := by rw [g.key]
    have z := g.ext (L := 2) (other := other) (Nat.le_refl _) hst (fun h => by omega) hf (fun i h1 h2 => by
      have : i = 1 := by omega
      subst this
      rw [if_neg (by omega), altC_odd (by rfl)]
      exact ⟨hd, q.1⟩) (fun i h1 h2 => by omega)
    have e1 : T.strPrice b p 2 k.2 other = T.price (T.cell b (p + 1)) other := by
      unfold Tb.strPrice
      show (T.price (T.cell b (p + (0 + 1))) (altC k.2 other (0 + 1)) + 0 : Int) = _
      rw [altC_odd (by rfl), Int.add_zero]
    have e2 : strCols 2 k.2 other = [other] := by
      show [altC k.2 other (0 + 1)] = _
      rw [altC_odd (by rfl)]
    rw [e1, e2, altC_even (by rfl), altC_odd (by rfl)] at z
    rw [q.2]
    refine ⟨_, _, z, extX_le (Nat.zero_le _), fun h => ?_, fun j h1 h2 => ?_⟩
    · have h' : p + 2 ≤ p + 1 := h
      omega
    · have h2' : j ≤ p + 1 := h2
      rw [extX_ge own h1, extX_ge own (Nat.le_succ _), own, show p + 1 - p = 1 by omega]
      rw [show altC k.2 other 1 = other from altC_odd (by rfl)]
  · have own : x p = k.2 := by rw [g.key]
    have hok' := strOk_iff.mp hok
    have z := g.ext (L := L) (other := other) (by omega) hst (fun _ => hne) hf (fun i h1 h2 => ⟨(strAt_iff.mp (hok' i h1 h2)).1, (strAt_iff.mp (hok' i h1 h2)).2.2⟩) (fun i h1 h2 => (strAt_iff.mp (hok' i h1 (by omega))).2.1 h2)
    rw [q]
    refine ⟨_, _, z, extX_le (Nat.zero_le _), fun _ j h1 h2 => ?_, fun j h1 h2 => ?_⟩
    · have h2' : j < p + L - 1 := h2
      rw [extD_ge g.dep.zp (by omega)]
      omega
    · rw [extX_ge own h1, extX_ge own (Nat.le_succ _), own, show p + 1 - p = 1 by omega]
      rw [show altC k.2 other 1 = other from altC_odd (by rfl)]
/-- what a path starts with -/
def startOf (T : Tb) (b : Nat) (S : Int → Prop) (k : KK) (v : Val) : Prop := ∃ c, c ∈ T.dom (T.cell b 0) ∧ S c ∧ k = (none, c) ∧ v = (T.price (T.cell b 0) c, [c])
theorem Geo.start {T : Tb} {b : Nat} {first : Option Int} {c : Int} (h : c ∈ T.dom (T.cell b 0)) : Geo T b first 0 (none, c) (T.price (T.cell b 0) c, [c]) (fun _ => c) (fun _ => 0) where
  dep := ⟨rfl, rfl, fun j h1 h2 => by omega, fun j h1 h2 => by omega⟩
  cols := rfl
  cost := by
    unfold Tb.costTo
    show T.price (T.cell b 0) c = T.price (T.cell b 0) c + 0
    omega
  key := rfl
  dom := fun j hj => by
    have : j = 0 := by omega
    subst this
    exact h
  fst := fun f _ h => by omega
  suit := fun j h1 h2 => by omega
theorem path_geo {T : Tb} {b last : Nat} {first : Option Int} {S : Int → Prop} {p : Nat} {k : KK} {v : Val} (h : Pth (startOf T b S) (T.steps b last first) p k v) : ∃ x D, Geo T b first p k v x D ∧ S (x 0) := by
  induction h with
  | start h =>
    obtain ⟨c, h1, h2, rfl, rfl⟩ := h
    exact ⟨_, _, Geo.start h1, h2⟩
  | step h hm ih =>
    obtain ⟨x, D, g, hs⟩ := ih
    obtain ⟨y, E, g', e, _⟩ := g.step hm
    exact ⟨y, E, g', by rw [e]; exact hs⟩

/-! ### each colouring with its depths is a path -/
theorem seg_depth {D : Nat → Nat} {q p : Nat} (hqp : q < p) (zq : D q = 0) (zp : D p = 0) (nz : ∀ j, q < j → j < p → D j ≠ 0) (st : ∀ j, q < j → j < p → D j = 1 + min (D (j - 1)) (D (j + 1))) :
    ∀ j, q ≤ j → j ≤ p → D j = min (j - q) (p - j) := by
  have up1 : ∀ m j, j = q + m → j ≤ p → D j ≤ m := by
    intro m
    induction m with
    | zero => intro j e h; rw [e, Nat.add_zero, zq]; exact Nat.le_refl _
    | succ m ih =>
      intro j e h
      rcases Nat.lt_or_eq_of_le h with h | h
      · have := st j (by omega) h
        have := ih (j - 1) (by omega) (by omega)
        omega
      · rw [h, zp]; exact Nat.zero_le _
  have up2 : ∀ m j, p = j + m → q ≤ j → D j ≤ m := by
    intro m
    induction m with
    | zero => intro j e h; have : j = p := by omega
              rw [this, zp]; exact Nat.le_refl _
    | succ m ih =>
      intro j e h
      rcases Nat.lt_or_eq_of_le h with h | h
      · have := st j h (by omega)
        have := ih (j + 1) (by omega) (by omega)
        omega
      · rw [← h, zq]; exact Nat.zero_le _
  have lo : ∀ m j, q ≤ j → j ≤ p → D j = m → min (j - q) (p - j) ≤ m := by
    intro m
    induction m with
    | zero =>
      intro j h1 h2 e
      by_cases a : j = q
      · omega
      · by_cases c : j = p
        · omega
        · exact absurd e (nz j (by omega) (by omega))
    | succ m ih =>
      intro j h1 h2 e
      have a : j ≠ q := fun z => by rw [z, zq] at e; omega
      have c : j ≠ p := fun z => by rw [z, zp] at e; omega
      have s := st j (by omega) (by omega)
      rcases Nat.le_total (D (j - 1)) (D (j + 1)) with w | w
      · have := ih (j - 1) (by omega) (by omega) (by omega)
        omega
      · have := ih (j + 1) (by omega) (by omega) (by omega)
        omega
  intro j h1 h2
  have a := up1 (j - q) j (by omega) h2
  have c := up2 (p - j) j (by omega) h1
  have d := lo (D j) j h1 h2 rfl
  omega
theorem seg_alt {T : Tb} {b : Nat} {x : Nat → Int} {q p : Nat} (r : ∀ j, q < j → j < p → T.rdy b x j) : ∀ i, q + i ≤ p → x (q + i) = altC (x q) (x (q + 1)) i
  | 0, _ => (altC_even (by rfl)).symm
  | 1, _ => (altC_odd (by rfl)).symm
  | i + 2, h => by
    have e := (r (q + (i + 1)) (by omega) (by omega)).2.1
    rw [show q + (i + 1) - 1 = q + i by omega, show q + (i + 1) + 1 = q + (i + 2) by omega] at e
    rw [← e, seg_alt r i (by omega)]
    exact altC_par (by omega)
/-- the last place below p without depth -/
theorem last_zero (D : Nat → Nat) (z0 : D 0 = 0) : ∀ p, 0 < p → ∃ q, q < p ∧ D q = 0 ∧ ∀ j, q < j → j < p → D j ≠ 0
  | 0, h => by omega
  | 1, _ => ⟨0, Nat.zero_lt_one, z0, fun j h1 h2 => by omega⟩
  | p + 2, _ => by
    by_cases e : D (p + 1) = 0
    · exact ⟨p + 1, Nat.lt_succ_self _, e, fun j h1 h2 => by omega⟩
    · obtain ⟨q, h1, h2, h3⟩ := last_zero D z0 (p + 1) (Nat.succ_pos _)
      refine ⟨q, by omega, h2, fun j a c => ?_⟩
      by_cases z : j = p + 1
      · rw [z]; exact e
      · exact h3 j a (by omega)
def Tb.stepsC (T : Tb) (b last : Nat) (first : Option Int) (cl : Nat → Nat → Bool) (p : Nat) (k : KK) : List Stp := (T.steps b last first p k).filter fun s => cl p s.there
def keyAt (x : Nat → Int) (p : Nat) : KK := (if p = 0 then none else some (x (p - 1)), x p)
theorem costTo_add (T : Tb) (b p m : Nat) (x : Nat → Int) : T.costTo b (p + m) x = T.costTo b p x + ((List.range m).map fun i => T.price (T.cell b (p + i)) (x (p + i))).sum := by
  unfold Tb.costTo
  rw [range_split, List.sum_append]
theorem geo_path {T : Tb} {b last : Nat} {first : Option Int} {S : Int → Prop} {cl : Nat → Nat → Bool} {x : Nat → Int} {D : Nat → Nat} (dep : Dep T b x last D) (dom : ∀ j, j ≤ last → x j ∈ T.dom (T.cell b j)) (hf : first = none ∨ first = some (x 1))
    (hs : ∀ j, 1 ≤ j → j ≤ last → T.suits (T.cell b j) (endc x D j) = true) (h0 : S (x 0)) (hl : last + 1 ≤ T.longest) (hc : ∀ q p, q < p → p ≤ last → D q = 0 → D p = 0 → cl q p = true) :
    ∀ p, p ≤ last → D p = 0 → Pth (startOf T b S) (T.stepsC b last first cl) p (keyAt x p) (T.costTo b (p + 1) x, (List.range (p + 1)).map x) := by
  intro p
  induction p using Nat.strongRecOn with
  | ind p ih =>
  intro hp zp
  rcases Nat.eq_zero_or_pos p with e | h
  · subst e
    have e1 : T.costTo b (0 + 1) x = T.price (T.cell b 0) (x 0) := by
      unfold Tb.costTo
      show T.price (T.cell b 0) (x 0) + 0 = _
      rw [Int.add_zero]
    rw [e1]
    exact .start ⟨x 0, dom 0 hp, h0, rfl, rfl⟩
  · obtain ⟨q, hq, zq, nz⟩ := last_zero D dep.z0 p h
    have hr : ∀ j, q < j → j < p → T.rdy b x j := fun j h1 h2 => Classical.byContradiction fun z => nz j h1 h2 ((dep.zr j (by omega) (by omega)).mpr z)
    have hd := seg_depth hq zq zp nz fun j h1 h2 => dep.st j (by omega) (by omega) (nz j h1 h2)
    have ha := seg_alt hr
    have P := ih q hq (by omega) zq
    have hst : T.still (T.cell b q) (keyAt x q).1 (keyAt x q).2 (x (q + 1)) = true := by
      unfold keyAt Tb.still
      rcases Nat.eq_zero_or_pos q with e | h'
      · rw [if_pos e]; simp
      · rw [if_neg (by omega)]
        have z := (dep.zr q h' (by omega)).mp zq
        cases hh : T.held (T.cell b q) with
        | true => rfl
        | false =>
          by_cases e1 : x (q - 1) = x (q + 1)
          · by_cases e2 : x (q - 1) = x q
            · simp [e2]
            · exact absurd ⟨hh, e1, e2⟩ z
          · simp [e1]
    have hfc : first = none ∨ 0 < q ∨ first = some (x (q + 1)) := by
      rcases hf with hf | hf
      · exact .inl hf
      · rcases Nat.eq_zero_or_pos q with e | h'
        · subst e; exact .inr (.inr hf)
        · exact .inr (.inl h')
    have hcl := hc q p hq hp zq zp
    rcases Nat.lt_or_ge (q + 1) p with h2 | h2
    · -- a stretch
      have hm : T.stepL b q (keyAt x q) (x (q + 1)) (p - q + 1) ∈ T.steps b last first q (keyAt x q) := by
        refine mem_steps.mpr ⟨x (q + 1), dom _ (by omega), hfc, hst, .inr ⟨p - q + 1, by omega, by omega, by omega, ?_, ?_, rfl⟩⟩
        · have z := (hr (q + 1) (by omega) h2).2.2
          exact fun e => z (by rw [show q + 1 - 1 = q by omega]; exact e.symm)
        · refine strOk_iff.mpr fun i h3 h4 => strAt_iff.mpr ⟨?_, fun h5 => (hr (q + i) (by omega) (by omega)).1, ?_⟩
          · show altC (x q) (x (q + 1)) i ∈ _
            rw [← ha i (by omega)]
            exact dom _ (by omega)
          · have s := hs (q + i) (by omega) (by omega)
            have e : endc x D (q + i) = (if i ≤ p - q + 1 - 1 - i then x q else altC (x q) (x (q + 1)) (p - q + 1 - 1)) := by
              have e0 : D (q + i) = min i (p - q - i) := by rw [hd (q + i) (by omega) (by omega)]; omega
              have e1 : x (q + i - 1) = altC (x q) (x (q + 1)) (i - 1) := by
                rw [show q + i - 1 = q + (i - 1) by omega]; exact ha (i - 1) (by omega)
              unfold endc
              rw [e0, ha i (by omega), e1]
              split
              · split
                · exact altC_even (by omega)
                · exact altC_par (by omega)
              · split
                · exact altC_even (by omega)
                · exact altC_par (by omega)
            rw [e] at s
            exact s
      have z := Pth.step P (List.mem_filter.mpr ⟨hm, by
        show cl q (q + (p - q + 1) - 1) = true
        rw [show q + (p - q + 1) - 1 = p by omega]
        exact hcl⟩)
      have e1 : (T.stepL b q (keyAt x q) (x (q + 1)) (p - q + 1)).there = p := by show q + (p - q + 1) - 1 = p; omega
      have e2 : (T.stepL b q (keyAt x q) (x (q + 1)) (p - q + 1)).key = keyAt x p := by
        show (some (altC (x q) (x (q + 1)) (p - q + 1 - 2)), altC (x q) (x (q + 1)) (p - q + 1 - 1)) = _
        unfold keyAt
        rw [if_neg (by omega), ← ha _ (by omega), ← ha _ (by omega), show q + (p - q + 1 - 2) = p - 1 by omega, show q + (p - q + 1 - 1) = p by omega]
      have e3 : Val.plus (T.costTo b (q + 1) x, (List.range (q + 1)).map x) (T.stepL b q (keyAt x q) (x (q + 1)) (p - q + 1)) = (T.costTo b (p + 1) x, (List.range (p + 1)).map x) := by
        show (T.costTo b (q + 1) x + T.strPrice b q (p - q + 1) (x q) (x (q + 1)), (List.range (q + 1)).map x ++ strCols (p - q + 1) (x q) (x (q + 1))) = _
        rw [show p + 1 = (q + 1) + (p - q) by omega, costTo_add T b (q + 1) (p - q), range_split (q + 1) (p - q)]
        have l1 : p - q + 1 - 1 = p - q := by omega
        congr 1
        · congr 1
          unfold Tb.strPrice
          rw [l1]
          congr 1
          refine List.map_congr_left fun i hi => ?_
          have := List.mem_range.mp hi
          rw [← ha (i + 1) (by omega), show q + (i + 1) = q + 1 + i by omega]
        · congr 1
          unfold strCols
          rw [l1]
          refine List.map_congr_left fun i hi => ?_
          have := List.mem_range.mp hi
          rw [← ha (i + 1) (by omega), show q + (i + 1) = q + 1 + i by omega]
      rw [e1, e2, e3] at z
      exact z
    · have hpq : p = q + 1 := by omega
      subst hpq
      have hm : (⟨q + 1, (some (keyAt x q).2, x (q + 1)), T.price (T.cell b (q + 1)) (x (q + 1)), [x (q + 1)]⟩ : Stp) ∈ T.steps b last first q (keyAt x q) := by
        refine mem_steps.mpr ⟨x (q + 1), dom _ (by omega), hfc, hst, .inl ⟨?_, rfl⟩⟩
        have s := hs (q + 1) (by omega) hp
        have e : endc x D (q + 1) = x (q + 1) := by unfold endc; rw [zp]; rfl
        rw [e] at s; exact s
      have z := Pth.step P (List.mem_filter.mpr ⟨hm, hcl⟩)
      have e3 : Val.plus (T.costTo b (q + 1) x, (List.range (q + 1)).map x) ⟨q + 1, (some (keyAt x q).2, x (q + 1)), T.price (T.cell b (q + 1)) (x (q + 1)), [x (q + 1)]⟩ = (T.costTo b (q + 1 + 1) x, (List.range (q + 1 + 1)).map x) := by
        show (T.costTo b (q + 1) x + T.price (T.cell b (q + 1)) (x (q + 1)), (List.range (q + 1)).map x ++ [x (q + 1)]) = _
        rw [costTo_add T b (q + 1) 1, range_split (q + 1) 1]
        show _ = (T.costTo b (q + 1) x + (T.price (T.cell b (q + 1 + 0)) (x (q + 1 + 0)) + 0), _)
        rw [Int.add_zero]
        rfl
      rw [e3] at z
      exact z
theorem path_mono {start : KK → Val → Prop} {stp stp' : Nat → KK → List Stp} (h : ∀ p k s, s ∈ stp p k → s ∈ stp' p k) {p : Nat} {k : KK} {v : Val} (P : Pth start stp p k v) : Pth start stp' p k v := by
  induction P with
  | start h' => exact .start h'
  | step _ hm ih => exact .step ih (h _ _ _ hm)
end Flk

/-! The plain law, part C: what the steps do; depths exist; colourings with depths come to rest as their depths say. -/
namespace Flk

def prv (n k : Nat) : Nat := (k + n - 1) % n
def nxt (n k : Nat) : Nat := (k + 1) % n
theorem prv_zero {n : Nat} (h : 0 < n) : prv n 0 = n - 1 := by unfold prv; rw [Nat.zero_add]; exact Nat.mod_eq_of_lt (by omega)
theorem prv_pos {n k : Nat} (h : k < n) (h0 : 0 < k) : prv n k = k - 1 := by
  unfold prv
  rw [show k + n - 1 = (k - 1) + n by omega, Nat.add_mod_right]
  exact Nat.mod_eq_of_lt (by omega)
theorem nxt_lt {n k : Nat} (h : k + 1 < n) : nxt n k = k + 1 := Nat.mod_eq_of_lt h
theorem nxt_last {n k : Nat} (h : k + 1 = n) : nxt n k = 0 := by unfold nxt; rw [h]; exact Nat.mod_self n
theorem prv_lt {n : Nat} (h : 0 < n) (k : Nat) : prv n k < n := Nat.mod_lt _ h
theorem nxt_lt' {n : Nat} (h : 0 < n) (k : Nat) : nxt n k < n := Nat.mod_lt _ h
theorem prv_nxt {n k : Nat} (h : k < n) : prv n (nxt n k) = k := by
  rcases Nat.lt_or_eq_of_le (show k + 1 ≤ n from h) with q | q
  · rw [nxt_lt q, prv_pos q (Nat.succ_pos _)]; omega
  · rw [nxt_last q, prv_zero (by omega)]; omega
theorem nxt_prv {n k : Nat} (h : k < n) : nxt n (prv n k) = k := by
  rcases Nat.eq_zero_or_pos k with q | q
  · subst q; rw [prv_zero h, nxt_last (by omega)]
  · rw [prv_pos h q, nxt_lt (by omega)]; omega

def rdyC (n : Nat) (held : Nat → Bool) (c : Nat → Int) (k : Nat) : Bool := !held k && (c (prv n k) == c (nxt n k)) && (c (prv n k) != c k)
theorem rdyC_iff {n : Nat} {held : Nat → Bool} {c : Nat → Int} {k : Nat} : rdyC n held c k = true ↔ held k = false ∧ c (prv n k) = c (nxt n k) ∧ c (prv n k) ≠ c k := by
  unfold rdyC
  simp only [Bool.and_eq_true, Bool.not_eq_true', beq_iff_eq, bne_iff_ne]
  exact and_assoc
def fl (n : Nat) (c : Nat → Int) (D : Nat → Nat) (t k : Nat) : Int := if min t (D k) % 2 = 0 then c k else c (prv n k)
structure DepC (n : Nat) (held : Nat → Bool) (c : Nat → Int) (D : Nat → Nat) : Prop where
  z : ∀ k, k < n → (D k = 0 ↔ rdyC n held c k = false)
  s : ∀ k, k < n → D k ≠ 0 → D k = 1 + min (D (prv n k)) (D (nxt n k))
theorem DepC.r {n : Nat} {held : Nat → Bool} {c : Nat → Int} {D : Nat → Nat} (d : DepC n held c D) {k : Nat} (hk : k < n) (h : D k ≠ 0) : held k = false ∧ c (prv n k) = c (nxt n k) ∧ c (prv n k) ≠ c k := by
  refine rdyC_iff.mp ?_
  cases e : rdyC n held c k with
  | true => rfl
  | false => exact absurd ((d.z k hk).mpr e) h
theorem dyn {n : Nat} {held : Nat → Bool} {c : Nat → Int} {D : Nat → Nat} (d : DepC n held c D) (t k : Nat) (hk : k < n) : rdyC n held (fl n c D t) k = decide (t < D k) := by
  have hn : 0 < n := by omega
  have hp := prv_lt hn k
  have hq := nxt_lt' hn k
  have ep : nxt n (prv n k) = k := nxt_prv hk
  have eq : prv n (nxt n k) = k := prv_nxt hk
  have fq : fl n c D t (nxt n k) = if min t (D (nxt n k)) % 2 = 0 then c (nxt n k) else c k := by unfold fl; rw [eq]
  have fp : fl n c D t (prv n k) = if min t (D (prv n k)) % 2 = 0 then c (prv n k) else c k := by
    unfold fl
    split
    · rfl
    · rename_i h
      have nz : D (prv n k) ≠ 0 := fun z => h (by rw [z]; omega)
      have := (d.r hp nz).2.1
      rw [ep] at this
      exact this
  by_cases ht : t < D k
  · rw [decide_eq_true ht]
    have nz : D k ≠ 0 := by omega
    obtain ⟨r1, r2, r3⟩ := d.r hk nz
    have s := d.s k hk nz
    have m1 : min t (D (prv n k)) = t := by omega
    have m2 : min t (D (nxt n k)) = t := by omega
    have m3 : min t (D k) = t := by omega
    refine rdyC_iff.mpr ⟨r1, ?_, ?_⟩
    · rw [fp, fq, m1, m2, r2]
    · rw [fp, m1]
      unfold fl
      rw [m3]
      split
      · exact r3
      · exact fun z => r3 z.symm
  · rw [decide_eq_false ht]
    cases e : rdyC n held (fl n c D t) k with
    | false => rfl
    | true =>
      exfalso
      obtain ⟨r1, r2, r3⟩ := rdyC_iff.mp e
      rw [fp, fq] at r2
      rw [fp] at r3
      have m3 : min t (D k) = D k := by omega
      have fk : fl n c D t k = if D k % 2 = 0 then c k else c (prv n k) := by unfold fl; rw [m3]
      rw [fk] at r3
      by_cases z : D k = 0
      · rw [z, if_pos (show 0 % 2 = 0 from rfl)] at r3
        have nr := (d.z k hk).mp z
        by_cases a : min t (D (prv n k)) % 2 = 0
        · rw [if_pos a] at r2 r3
          by_cases b : min t (D (nxt n k)) % 2 = 0
          · rw [if_pos b] at r2
            have := rdyC_iff.mpr ⟨r1, r2, r3⟩
            rw [nr] at this; cases this
          · rw [if_neg b] at r2; exact r3 r2
        · rw [if_neg a] at r3; exact r3 rfl
      · obtain ⟨q1, q2, q3⟩ := d.r hk z
        have s := d.s k hk z
        rcases Nat.le_total (D (prv n k)) (D (nxt n k)) with w | w
        · have m1 : min t (D (prv n k)) = D k - 1 := by omega
          rw [m1] at r3
          by_cases pr : D k % 2 = 0
          · rw [if_pos pr, if_neg (by omega)] at r3; exact r3 rfl
          · rw [if_neg pr, if_pos (by omega)] at r3; exact r3 rfl
        · have m2 : min t (D (nxt n k)) = D k - 1 := by omega
          rw [m2] at r2
          rw [r2] at r3
          by_cases pr : D k % 2 = 0
          · rw [if_pos pr, if_neg (by omega)] at r3; exact r3 rfl
          · rw [if_neg pr, if_pos (by omega)] at r3; exact r3 q2.symm
theorem fl_step {n : Nat} {held : Nat → Bool} {c : Nat → Int} {D : Nat → Nat} (d : DepC n held c D) (t k : Nat) (hk : k < n) : (if rdyC n held (fl n c D t) k = true then fl n c D t (prv n k) else fl n c D t k) = fl n c D (t + 1) k := by
  have hn : 0 < n := by omega
  have hp := prv_lt hn k
  have ep : nxt n (prv n k) = k := nxt_prv hk
  rw [dyn d t k hk]
  by_cases ht : t < D k
  · rw [decide_eq_true ht, if_pos rfl]
    have nz : D k ≠ 0 := by omega
    have s := d.s k hk nz
    have m1 : min t (D (prv n k)) = t := by omega
    have m3 : min (t + 1) (D k) = t + 1 := by omega
    unfold fl
    rw [m1, m3]
    split
    · rw [if_neg (by omega)]
    · rename_i h
      rw [if_pos (by omega)]
      have := (d.r hp (by omega)).2.1
      rw [ep] at this
      exact this
  · rw [decide_eq_false ht, if_neg (by exact Bool.false_ne_true)]
    have m : min t (D k) = min (t + 1) (D k) := by omega
    unfold fl
    rw [m]

/-! ### lists of colours -/
def cOf (cs : List Int) (k : Nat) : Int := cs.getD k 0
def readyL (n : Nat) (held : Nat → Bool) (cs : List Int) : List Nat := (List.range n).filter (rdyC n held (cOf cs))
def stepL (n : Nat) (held : Nat → Bool) (cs : List Int) : List Int := (List.range n).map fun k => if rdyC n held (cOf cs) k = true then cOf cs (prv n k) else cOf cs k
def runL (n : Nat) (held : Nat → Bool) : Nat → List Int → Option (List Int)
  | 0, _ => none
  | f + 1, cs => if readyL n held cs = [] then some cs else runL n held f (stepL n held cs)
theorem cOf_map {n : Nat} {f : Nat → Int} {k : Nat} (h : k < n) : cOf ((List.range n).map f) k = f k := by
  unfold cOf
  rw [List.getD_eq_getElem?_getD, List.getElem?_map, List.getElem?_range h]
  rfl
theorem rdyC_congr {n : Nat} {held : Nat → Bool} {c c' : Nat → Int} (h : ∀ k, k < n → c k = c' k) {k : Nat} (hk : k < n) : rdyC n held c k = rdyC n held c' k := by
  have hn : 0 < n := by omega
  unfold rdyC
  rw [h _ (prv_lt hn k), h _ (nxt_lt' hn k), h k hk]
theorem ready_nil {n : Nat} {held : Nat → Bool} {cs : List Int} : readyL n held cs = [] ↔ ∀ k, k < n → rdyC n held (cOf cs) k = false := by
  unfold readyL
  rw [List.filter_eq_nil_iff]
  constructor
  · intro h k hk
    exact Bool.eq_false_iff.mpr (h k (List.mem_range.mpr hk))
  · intro h k hk
    rw [h k (List.mem_range.mp hk)]
    exact Bool.false_ne_true
theorem map_range_eq {n : Nat} {f g : Nat → Int} (h : ∀ k, k < n → f k = g k) : (List.range n).map f = (List.range n).map g := List.map_congr_left fun k hk => h k (List.mem_range.mp hk)
theorem run_fl {n : Nat} {held : Nat → Bool} {c : Nat → Int} {D : Nat → Nat} (d : DepC n held c D) : ∀ (f t : Nat), (∀ k, k < n → D k ≤ t + f) →
    runL n held (f + 1) ((List.range n).map (fl n c D t)) = some ((List.range n).map fun k => if D k % 2 = 0 then c k else c (prv n k)) := by
  have key : ∀ t k, k < n → rdyC n held (cOf ((List.range n).map (fl n c D t))) k = decide (t < D k) := fun t k hk => by
    rw [rdyC_congr (c' := fl n c D t) (fun j hj => cOf_map hj) hk]
    exact dyn d t k hk
  have stop : ∀ t, (∀ k, k < n → D k ≤ t) → (List.range n).map (fl n c D t) = (List.range n).map fun k => if D k % 2 = 0 then c k else c (prv n k) := fun t h => map_range_eq fun k hk => by
    unfold fl
    rw [Nat.min_eq_right (h k hk)]
  intro f
  induction f with
  | zero =>
    intro t h
    have e : readyL n held ((List.range n).map (fl n c D t)) = [] := ready_nil.mpr fun k hk => by
      rw [key t k hk]
      exact decide_eq_false (by have := h k hk; omega)
    show (if _ then _ else _) = _
    rw [if_pos e, stop t fun k hk => by have := h k hk; omega]
  | succ f ih =>
    intro t h
    show (if _ then _ else _) = _
    split
    · rename_i e
      rw [stop t fun k hk => ?_]
      have := ready_nil.mp e k hk
      rw [key t k hk] at this
      have := of_decide_eq_false this
      omega
    · have e : stepL n held ((List.range n).map (fl n c D t)) = (List.range n).map (fl n c D (t + 1)) := by
        unfold stepL
        refine map_range_eq fun k hk => ?_
        rw [key t k hk, ← dyn d t k hk, cOf_map (prv_lt (by omega) k), cOf_map hk]
        exact fl_step d t k hk
      rw [e]
      exact ih (t + 1) fun k hk => by have := h k hk; omega
theorem list_cOf {cs : List Int} {n : Nat} (h : cs.length = n) : cs = (List.range n).map (cOf cs) := by
  subst h
  refine List.ext_getElem (by simp) fun i h1 h2 => ?_
  simp [cOf, List.getD_eq_getElem?_getD, List.getElem?_eq_getElem h1]
/-- with depths below n + 2: at rest -/
theorem run_rest {n : Nat} {held : Nat → Bool} {cs : List Int} {D : Nat → Nat} (hl : cs.length = n) (d : DepC n held (cOf cs) D) (h : ∀ k, k < n → D k ≤ n) :
    runL n held (n + 2) cs = some ((List.range n).map fun k => if D k % 2 = 0 then cOf cs k else cOf cs (prv n k)) := by
  have e : (List.range n).map (fl n (cOf cs) D 0) = cs := by
    rw [list_cOf hl]
    refine map_range_eq fun k hk => ?_
    unfold fl
    rw [Nat.zero_min, if_pos (by rfl), ← list_cOf hl]
  have := run_fl d (n + 1) 0 fun k hk => by have := h k hk; omega
  rw [e] at this
  exact this
/-- all ready: never at rest -/
theorem run_swing {n : Nat} {held : Nat → Bool} (hn : 0 < n) : ∀ (f : Nat) (cs : List Int), (∀ k, k < n → rdyC n held (cOf cs) k = true) → runL n held f cs = none
  | 0, _, _ => rfl
  | f + 1, cs, h => by
    show (if _ then _ else _) = _
    rw [if_neg fun e => by have := ready_nil.mp e 0 hn; rw [h 0 hn] at this; cases this]
    refine run_swing hn f _ fun k hk => ?_
    have e : ∀ j, j < n → cOf (stepL n held cs) j = cOf cs (prv n j) := fun j hj => by
      unfold stepL
      rw [cOf_map hj, if_pos (h j hj)]
    have hp := prv_lt hn k
    have hq := nxt_lt' hn k
    have a := rdyC_iff.mp (h k hk)
    have b := rdyC_iff.mp (h _ hp)
    rw [nxt_prv hk] at b
    refine rdyC_iff.mpr ⟨a.1, ?_, ?_⟩
    · rw [e _ hp, e _ hq, prv_nxt hk]; exact b.2.1
    · rw [e _ hp, e _ hk]; exact b.2.2

/-! ### depths along a line exist -/
section
variable (R : Nat → Bool) (last : Nat)
def loD : Nat → Nat
  | 0 => 0
  | j + 1 => if R (j + 1) && decide (j + 1 < last) then loD j + 1 else 0
/-- from the right: m places before the last -/
def hiM : Nat → Nat
  | 0 => 0
  | m + 1 => if R (last - (m + 1)) && decide (m + 1 < last) then hiM m + 1 else 0
def mkD (j : Nat) : Nat := min (loD R last j) (hiM R last (last - j))
variable {R last}
theorem loD_still {j : Nat} (h : R j = false ∨ last ≤ j) : loD R last j = 0 := by
  cases j with
  | zero => rfl
  | succ j =>
    unfold loD
    rw [if_neg]
    rcases h with h | h
    · simp [h]
    · simp; omega
theorem loD_rdy {j : Nat} (h : R j = true) (h0 : 0 < j) (hl : j < last) : loD R last j = loD R last (j - 1) + 1 := by
  cases j with
  | zero => omega
  | succ j =>
    rw [loD, if_pos (by simp [h, hl])]
    rfl
theorem hiM_still {j : Nat} (h : R j = false ∨ j = 0) (hl : j ≤ last) : hiM R last (last - j) = 0 := by
  cases e : last - j with
  | zero => rfl
  | succ m =>
    unfold hiM
    rw [if_neg]
    rcases h with h | h
    · rw [show last - (m + 1) = j by omega]; simp [h]
    · simp; omega
theorem hiM_rdy {j : Nat} (h : R j = true) (h0 : 0 < j) (hl : j < last) : hiM R last (last - j) = hiM R last (last - (j + 1)) + 1 := by
  obtain ⟨m, e⟩ : ∃ m, last - j = m + 1 := ⟨last - j - 1, by omega⟩
  rw [e, hiM, if_pos]
  · rw [show last - (j + 1) = m by omega]
  · rw [show last - (m + 1) = j by omega, h]
    simp; omega
theorem mkD_still {j : Nat} (h : R j = false) : mkD R last j = 0 := by
  unfold mkD
  rw [loD_still (.inl h)]
  exact Nat.zero_min _
theorem mkD_zero : mkD R last 0 = 0 := Nat.zero_min _
theorem mkD_last : mkD R last last = 0 := by
  unfold mkD
  rw [loD_still (.inr (Nat.le_refl _))]
  exact Nat.zero_min _
theorem mkD_rdy {j : Nat} (h : R j = true) (h0 : 0 < j) (hl : j < last) : mkD R last j = 1 + min (mkD R last (j - 1)) (mkD R last (j + 1)) := by
  have a := loD_rdy h h0 hl
  have b := hiM_rdy h h0 hl
  have c : min (loD R last (j - 1)) (hiM R last (last - (j + 1))) ≤ hiM R last (last - (j - 1)) := by
    by_cases z : R (j - 1) = true ∧ 0 < j - 1
    · have := hiM_rdy (R := R) (last := last) z.1 z.2 (by omega)
      rw [show j - 1 + 1 = j by omega] at this
      omega
    · have : loD R last (j - 1) = 0 := by
        by_cases y : j - 1 = 0
        · rw [y]; rfl
        · exact loD_still (.inl (Bool.eq_false_iff.mpr fun q => z ⟨q, by omega⟩))
      omega
  have d : min (loD R last (j - 1)) (hiM R last (last - (j + 1))) ≤ loD R last (j + 1) := by
    by_cases z : R (j + 1) = true ∧ j + 1 < last
    · have := loD_rdy (R := R) (last := last) z.1 (Nat.succ_pos _) z.2
      rw [show j + 1 - 1 = j by omega] at this
      omega
    · have : hiM R last (last - (j + 1)) = 0 := by
        by_cases y : j + 1 = last
        · rw [y, Nat.sub_self]; rfl
        · exact hiM_still (.inl (Bool.eq_false_iff.mpr fun q => z ⟨q, by omega⟩)) (by omega)
      omega
  unfold mkD
  omega
end
theorem mkD_le (R : Nat → Bool) (last : Nat) : ∀ j, mkD R last j ≤ j := by
  have : ∀ j, loD R last j ≤ j := by
    intro j
    induction j with
    | zero => exact Nat.le_refl _
    | succ j ih => unfold loD; split <;> omega
  intro j
  exact Nat.le_trans (Nat.min_le_left _ _) (this j)
end Flk

/-! The plain law, part D: the paths of the table are the colourings that come to rest as wished; rows and rings. -/
namespace Flk

def Tb.costL (T : Tb) (cs : List Int) : Int := ((List.range T.n).map fun k => T.price k (cOf cs k)).sum
def Tb.Spec (T : Tb) (v : Val) : Prop := ∃ cs : List Int, cs.length = T.n ∧ (∀ k, k < T.n → cOf cs k ∈ T.dom k) ∧ v = (T.costL cs, cs) ∧
  ∃ r, runL T.n T.held (T.n + 2) cs = some r ∧ ∀ k, k < T.n → T.suits k (cOf r k) = true
theorem Dep.le {T : Tb} {b : Nat} {x : Nat → Int} {p : Nat} {D : Nat → Nat} (d : Dep T b x p D) : ∀ j, j ≤ p → D j ≤ j := by
  intro j
  induction j with
  | zero => intro _; rw [d.z0]; exact Nat.le_refl _
  | succ j ih =>
    intro h
    by_cases e : D (j + 1) = 0
    · omega
    · rcases Nat.lt_or_eq_of_le h with q | q
      · have := d.st (j + 1) (Nat.succ_pos _) q e
        have := ih (by omega)
        rw [show j + 1 - 1 = j by omega] at *
        omega
      · rw [q, d.zp] at e; exact absurd rfl e

/-! ### rows -/
section
variable {T : Tb}
theorem cell_row {j : Nat} (h : j < T.n) : T.cell 0 j = j := by
  unfold Tb.cell
  rw [Nat.zero_add]
  exact Nat.mod_eq_of_lt h
theorem dep_row {x : Nat → Int} {D : Nat → Nat} (h0 : T.held 0 = true) (hl : T.held (T.n - 1) = true) (d : Dep T 0 x (T.n - 1) D) : DepC T.n T.held x D := by
  have e : ∀ k, 0 < k → k < T.n - 1 → (T.rdy 0 x k ↔ rdyC T.n T.held x k = true) := fun k h1 h2 => by
    rw [rdyC_iff, prv_pos (by omega) h1, nxt_lt (by omega)]
    unfold Tb.rdy
    rw [cell_row (by omega)]
  have hh : ∀ k, T.held k = true → rdyC T.n T.held x k = false := fun k h => by
    unfold rdyC; rw [h]; rfl
  have z : ∀ k, k < T.n → (D k = 0 ↔ rdyC T.n T.held x k = false) := fun k hk => by
    by_cases a : k = 0
    · subst a
      exact ⟨fun _ => hh 0 h0, fun _ => d.z0⟩
    · by_cases b : k = T.n - 1
      · subst b
        exact ⟨fun _ => hh _ hl, fun _ => d.zp⟩
      · rw [d.zr k (by omega) (by omega), e k (by omega) (by omega)]
        exact Bool.not_eq_true _ ▸ Iff.rfl
  refine ⟨z, fun k hk h => ?_⟩
  have a : k ≠ 0 := fun q => h (by rw [q]; exact d.z0)
  have b : k ≠ T.n - 1 := fun q => h (by rw [q]; exact d.zp)
  rw [prv_pos hk (by omega), nxt_lt (by omega)]
  exact d.st k (by omega) (by omega) h
theorem depC_congr {n : Nat} {held : Nat → Bool} {c c' : Nat → Int} {D : Nat → Nat} (h : ∀ k, k < n → c k = c' k) (d : DepC n held c D) : DepC n held c' D :=
  ⟨fun k hk => by rw [d.z k hk, rdyC_congr h hk], d.s⟩
theorem row_set (hn : 0 < T.n) (h0 : T.held 0 = true) (hl : T.held (T.n - 1) = true) (hlong : T.n + 1 ≤ T.longest) (v : Val) :
    (∃ k, Pth (startOf T 0 fun c => T.suits 0 c = true) (T.steps 0 (T.n - 1) none) (T.n - 1) k v) ↔ T.Spec v := by
  have en : T.n - 1 + 1 = T.n := by omega
  constructor
  · rintro ⟨k, P⟩
    obtain ⟨x, D, g, hs⟩ := path_geo P
    have gc := g.cols
    have gk := g.cost
    rw [en] at gc gk
    have ex : ∀ k, k < T.n → cOf v.2 k = x k := fun k hk => by rw [gc]; exact cOf_map hk
    have dc : DepC T.n T.held (cOf v.2) D := depC_congr (fun k hk => (ex k hk).symm) (dep_row h0 hl g.dep)
    have hlen : v.2.length = T.n := by rw [gc]; simp
    refine ⟨v.2, hlen, fun k hk => ?_, ?_, _, run_rest hlen dc fun k hk => ?_, fun k hk => ?_⟩
    · rw [ex k hk]
      have := g.dom k (by omega)
      rw [cell_row hk] at this
      exact this
    · refine Prod.ext ?_ rfl
      show v.1 = T.costL v.2
      rw [gk]
      unfold Tb.costTo Tb.costL
      congr 1
      refine map_range_eq fun k hk => ?_
      rw [cell_row hk, ex k hk]
    · have := g.dep.le k (by omega)
      omega
    · rw [cOf_map hk]
      rcases Nat.eq_zero_or_pos k with q | q
      · subst q
        rw [g.dep.z0, if_pos (by rfl), ex 0 hk]
        exact hs
      · have := g.suit k q (by omega)
        rw [cell_row hk] at this
        unfold endc at this
        rw [prv_pos hk q, ex k hk, ex (k - 1) (by omega)]
        exact this
  · rintro ⟨cs, hlen, hd, rfl, r, hr, hs⟩
    let R : Nat → Bool := rdyC T.n T.held (cOf cs)
    have dep : Dep T 0 (cOf cs) (T.n - 1) (mkD R (T.n - 1)) := by
      have e : ∀ j, 0 < j → j < T.n - 1 → (T.rdy 0 (cOf cs) j ↔ R j = true) := fun k h1 h2 => by
        show _ ↔ rdyC _ _ _ _ = true
        rw [rdyC_iff, prv_pos (by omega) h1, nxt_lt (by omega)]
        unfold Tb.rdy
        rw [cell_row (by omega)]
      refine ⟨mkD_zero, mkD_last, fun j h1 h2 => ?_, fun j h1 h2 h3 => ?_⟩
      · rw [e j h1 h2]
        cases q : R j with
        | true => rw [mkD_rdy q h1 h2]; simp
        | false => rw [mkD_still q]; simp
      · cases q : R j with
        | true => exact mkD_rdy q h1 h2
        | false => exact absurd (mkD_still q) h3
    have dc := dep_row h0 hl dep
    have rr := run_rest hlen dc fun k hk => by have := dep.le k (by omega); omega
    rw [hr] at rr
    cases rr
    have P := geo_path (first := none) (S := fun c => T.suits 0 c = true) (cl := fun _ _ => true) dep (fun j hj => by rw [cell_row (by omega)]; exact hd j (by omega)) (.inl rfl) (fun j h1 h2 => by
      have := hs j (by omega)
      rw [cOf_map (by omega), prv_pos (by omega) h1] at this
      rw [cell_row (by omega)]
      exact this) (by
      have := hs 0 hn
      rw [cOf_map hn, mkD_zero, if_pos (by rfl)] at this
      exact this) (by omega) (fun _ _ _ _ _ _ => rfl) (T.n - 1) (Nat.le_refl _) mkD_last
    refine ⟨keyAt (cOf cs) (T.n - 1), ?_⟩
    have e1 : T.costTo 0 (T.n - 1 + 1) (cOf cs) = T.costL cs := by
      rw [en]
      unfold Tb.costTo Tb.costL
      congr 1
      refine map_range_eq fun k hk => ?_
      rw [cell_row hk]
    have e2 : (List.range (T.n - 1 + 1)).map (cOf cs) = cs := by rw [en]; exact (list_cOf hlen).symm
    rw [e1, e2] at P
    exact path_mono (fun p k s h => (List.mem_filter.mp h).1) P
end

/-! ### rings -/
def posR (n b k : Nat) : Nat := (k + n - b) % n
theorem posR_ge {n b k : Nat} (h : b ≤ k) (hk : k < n) : posR n b k = k - b := by
  unfold posR
  rw [show k + n - b = (k - b) + n by omega, Nat.add_mod_right]
  exact Nat.mod_eq_of_lt (by omega)
theorem posR_lt {n b k : Nat} (h : k < b) (hb : b < n) : posR n b k = k + n - b := Nat.mod_eq_of_lt (by omega)
section
variable {T : Tb} {b : Nat}
theorem cell_lt {j : Nat} (h : b + j < T.n) : T.cell b j = b + j := Nat.mod_eq_of_lt h
theorem cell_ge {j : Nat} (h : T.n ≤ b + j) (h2 : b + j < T.n + T.n) : T.cell b j = b + j - T.n := by
  unfold Tb.cell
  rw [Nat.mod_eq_sub_mod h]
  exact Nat.mod_eq_of_lt (by omega)
theorem cell_pos {k : Nat} (hb : b < T.n) (hk : k < T.n) : T.cell b (posR T.n b k) = k := by
  rcases Nat.lt_or_ge k b with h | h
  · rw [posR_lt h hb, cell_ge (by omega) (by omega)]; omega
  · rw [posR_ge h hk, cell_lt (by omega)]; omega
theorem pos_cell {j : Nat} (hb : b < T.n) (hj : j < T.n) : posR T.n b (T.cell b j) = j := by
  rcases Nat.lt_or_ge (b + j) T.n with h | h
  · rw [cell_lt h, posR_ge (by omega) h]; omega
  · rw [cell_ge h (by omega), posR_lt (by omega) hb]; omega
theorem cell_lt_n (hn : 0 < T.n) {j : Nat} : T.cell b j < T.n := Nat.mod_lt _ hn
theorem cell_n (hb : b < T.n) : T.cell b T.n = b := by rw [cell_ge (by omega) (by omega)]; omega
theorem pos_self (hb : b < T.n) : posR T.n b b = 0 := by rw [posR_ge (Nat.le_refl _) hb]; omega
theorem pos_zero {k : Nat} (hb : b < T.n) (hk : k < T.n) (h : posR T.n b k = 0) : k = b := by
  have := cell_pos (T := T) hb hk
  rw [h, cell_lt (by omega)] at this
  omega
theorem pos_lt_n {k : Nat} (hk : k < T.n) : posR T.n b k < T.n := Nat.mod_lt _ (by omega)
theorem pos_prv {k : Nat} (hb : b < T.n) (hk : k < T.n) (h : posR T.n b k ≠ 0) : posR T.n b (prv T.n k) = posR T.n b k - 1 := by
  have kb : k ≠ b := fun z => h (by rw [z]; exact pos_self hb)
  rcases Nat.lt_or_ge k b with q | q
  · rw [posR_lt q hb]
    rcases Nat.eq_zero_or_pos k with z | z
    · subst z
      rw [prv_zero (by omega)]
      rw [posR_ge (by omega) (by omega)]; omega
    · rw [prv_pos hk z, posR_lt (by omega) hb]; omega
  · rw [posR_ge q hk, prv_pos hk (by omega), posR_ge (by omega) (by omega)]; omega
theorem pos_prv0 (hb : b < T.n) : posR T.n b (prv T.n b) = T.n - 1 := by
  rcases Nat.eq_zero_or_pos b with z | z
  · subst z
    rw [prv_zero hb, posR_ge (Nat.zero_le _) (by omega)]; omega
  · rw [prv_pos hb z, posR_lt (by omega) hb]; omega
theorem pos_nxt {k : Nat} (hb : b < T.n) (hk : k < T.n) (h : posR T.n b k + 1 < T.n) : posR T.n b (nxt T.n k) = posR T.n b k + 1 := by
  rcases Nat.lt_or_ge k b with q | q
  · rw [posR_lt q hb] at h ⊢
    rw [nxt_lt (by omega)]
    rw [posR_lt (by omega) hb]; omega
  · rw [posR_ge q hk] at h ⊢
    rcases Nat.lt_or_eq_of_le (show k + 1 ≤ T.n from hk) with z | z
    · rw [nxt_lt z, posR_ge (by omega) z]; omega
    · rw [nxt_last z, posR_lt (by omega) hb]; omega
theorem pos_nxtL {k : Nat} (hb : b < T.n) (hk : k < T.n) (h : posR T.n b k + 1 = T.n) : posR T.n b (nxt T.n k) = 0 := by
  rcases Nat.lt_or_ge k b with q | q
  · rw [posR_lt q hb] at h
    rw [nxt_lt (by omega), show k + 1 = b by omega]
    exact pos_self hb
  · rw [posR_ge q hk] at h
    have b0 : b = 0 := by omega
    subst b0
    rw [nxt_last (by omega)]
    exact pos_self hb
/-- the colouring of the cells that a line of places shows -/
def ringC (n b : Nat) (x : Nat → Int) (k : Nat) : Int := x (posR n b k)
theorem x_prv {x : Nat → Int} {k : Nat} (hb : b < T.n) (hk : k < T.n) (h : posR T.n b k ≠ 0) : ringC T.n b x (prv T.n k) = x (posR T.n b k - 1) := by
  unfold ringC; rw [pos_prv hb hk h]
theorem x_nxt {x : Nat → Int} {k : Nat} (hb : b < T.n) (hk : k < T.n) (ex : x T.n = x 0) : ringC T.n b x (nxt T.n k) = x (posR T.n b k + 1) := by
  unfold ringC
  have := pos_lt_n (T := T) (b := b) hk
  rcases Nat.lt_or_eq_of_le (show posR T.n b k + 1 ≤ T.n from this) with h | h
  · rw [pos_nxt hb hk h]
  · rw [pos_nxtL hb hk h, h, ex]
theorem dep_ring {x : Nat → Int} {D : Nat → Nat} (hb : b < T.n) (ex : x T.n = x 0) (d : Dep T b x T.n D) (hst : rdyC T.n T.held (ringC T.n b x) b = false) : DepC T.n T.held (ringC T.n b x) fun k => D (posR T.n b k) := by
  have e : ∀ k, k < T.n → posR T.n b k ≠ 0 → (T.rdy b x (posR T.n b k) ↔ rdyC T.n T.held (ringC T.n b x) k = true) := fun k hk h => by
    rw [rdyC_iff, x_prv hb hk h, x_nxt hb hk ex]
    unfold Tb.rdy
    rw [cell_pos hb hk]
    rfl
  refine ⟨fun k hk => ?_, fun k hk h => ?_⟩
  · by_cases z : posR T.n b k = 0
    · have kb := pos_zero hb hk z
      rw [z, d.z0, kb, hst]
      exact ⟨fun _ => rfl, fun _ => rfl⟩
    · rw [d.zr _ (by omega) (pos_lt_n hk), e k hk z]
      exact Bool.not_eq_true _ ▸ Iff.rfl
  · have z : posR T.n b k ≠ 0 := fun z => h (by show D (posR T.n b k) = 0; rw [z]; exact d.z0)
    show D (posR T.n b k) = 1 + min (D (posR T.n b (prv T.n k))) (D (posR T.n b (nxt T.n k)))
    rw [pos_prv hb hk z]
    have q := pos_lt_n (T := T) (b := b) hk
    have s := d.st _ (by omega) q h
    rcases Nat.lt_or_eq_of_le (show posR T.n b k + 1 ≤ T.n from q) with w | w
    · rw [pos_nxt hb hk w]; exact s
    · rw [pos_nxtL hb hk w, d.z0]
      rw [w, d.zp] at s
      exact s

def closeV (T : Tb) (b : Nat) (s : Int) (u : Val) : Val :=
  (u.1 - T.price b s, u.2.dropLast.drop (u.2.dropLast.length - b) ++ u.2.dropLast.take (u.2.dropLast.length - b))
theorem dropLast_range (n : Nat) (x : Nat → Int) : ((List.range (n + 1)).map x).dropLast = (List.range n).map x := by
  rw [List.range_succ, List.map_append, List.map_singleton, List.dropLast_concat]
theorem drop_range (n m : Nat) (x : Nat → Int) : ((List.range (m + n)).map x).drop m = (List.range n).map fun i => x (m + i) := by
  rw [range_split, List.drop_left' (by simp)]
theorem take_range (n m : Nat) (x : Nat → Int) : ((List.range (m + n)).map x).take m = (List.range m).map x := by
  rw [range_split, List.take_left' (by simp)]
theorem sum_comm_append (a c : List Int) : (a ++ c).sum = (c ++ a).sum := by
  rw [List.sum_append, List.sum_append]; omega
theorem close_calc {x : Nat → Int} (hb : b < T.n) (ex : x T.n = x 0) : closeV T b (x 0) (T.costTo b (T.n + 1) x, (List.range (T.n + 1)).map x) = (T.costL ((List.range T.n).map (ringC T.n b x)), (List.range T.n).map (ringC T.n b x)) := by
  have e1 : (List.range T.n).map (ringC T.n b x) = (List.range b).map (fun i => x (T.n - b + i)) ++ (List.range (T.n - b)).map x := by
    have := range_split b (T.n - b) (ringC T.n b x)
    rw [show b + (T.n - b) = T.n by omega] at this
    rw [this]
    congr 1
    · refine map_range_eq fun i hi => ?_
      unfold ringC
      rw [posR_lt hi hb]
      congr 1
      omega
    · refine map_range_eq fun i hi => ?_
      unfold ringC
      rw [posR_ge (by omega) (by omega)]
      congr 1
      omega
  unfold closeV
  dsimp only
  rw [dropLast_range]
  have len : ((List.range T.n).map x).length = T.n := by simp
  rw [len]
  have d1 := drop_range b (T.n - b) x
  have d2 := take_range b (T.n - b) x
  rw [show T.n - b + b = T.n by omega] at d1 d2
  rw [d1, d2, ← e1]
  congr 1
  have c0 : T.costTo b (T.n + 1) x = T.costTo b T.n x + T.price b (x 0) := by
    rw [costTo_add T b T.n 1]
    show _ + (T.price (T.cell b (T.n + 0)) (x (T.n + 0)) + 0) = _
    rw [Int.add_zero, Nat.add_zero, cell_n hb, ex]
  have c1 : T.costTo b T.n x = T.costL ((List.range T.n).map (ringC T.n b x)) := by
    have l1 : T.costL ((List.range T.n).map (ringC T.n b x)) = ((List.range T.n).map fun k => T.price k (ringC T.n b x k)).sum := by
      unfold Tb.costL
      congr 1
      exact map_range_eq fun k hk => by rw [cOf_map hk]
    rw [l1]
    have s1 := range_split b (T.n - b) fun k => T.price k (ringC T.n b x k)
    have s2 := range_split (T.n - b) b fun j => T.price (T.cell b j) (x j)
    rw [show b + (T.n - b) = T.n by omega] at s1
    rw [show T.n - b + b = T.n by omega] at s2
    unfold Tb.costTo
    rw [s1, s2, sum_comm_append]
    congr 2
    · refine map_range_eq fun i hi => ?_
      rw [cell_ge (by omega) (by omega)]
      unfold ringC
      rw [posR_lt hi hb, show b + (T.n - b + i) - T.n = i by omega, show T.n - b + i = i + T.n - b by omega]
    · refine map_range_eq fun i hi => ?_
      rw [cell_lt (by omega)]
      unfold ringC
      rw [posR_ge (by omega) (by omega), show b + i - b = i by omega]
  rw [c0, c1]
  omega

def clo (n b p there : Nat) : Bool := decide (there < n) || b == 0 || decide (p < n - b)
def Tb.RingAt (T : Tb) (b : Nat) (s f : Int) (k : KK) (u : Val) : Prop := Pth (startOf T b (· = s)) (T.stepsC b T.n (some f) (clo T.n b)) T.n k u
def Tb.RingSet (T : Tb) (v : Val) : Prop := ∃ b s f k u, b < T.n ∧ s ∈ T.dom b ∧ f ∈ T.dom (T.cell b 1) ∧ T.RingAt b s f k u ∧ k.2 = s ∧ T.still b k.1 s f = true ∧ v = closeV T b s u

/-- at last the cells below the begin alternate -/
def tailK (b : Nat) (k : KK) : List Int := (List.range b).map fun i => altC k.2 (k.1.getD 0) (b - i)
theorem ring_tail {s f : Int} {k : KK} {u : Val} (hb : b < T.n) (P : T.RingAt b s f k u) : ∃ A : List Int, A.length = T.n - b ∧ u.2 = A ++ (tailK b k ++ [k.2]) := by
  unfold Tb.RingAt at P
  generalize hm : T.n = m at P
  cases P with
  | start h => omega
  | @step q k0 u0 st P hmem =>
    obtain ⟨h1, h2⟩ := List.mem_filter.mp hmem
    obtain ⟨x, D, g, _⟩ := path_geo (path_mono (fun p k s h => (List.mem_filter.mp h).1) P)
    obtain ⟨y, E, g', _, _, ha⟩ := g.step h1
    have key : st.key = (if st.there = 0 then none else some (y (st.there - 1)), y st.there) := g'.key
    rw [if_neg (by omega)] at key
    have cols : (Val.plus u0 st).2 = (List.range (st.there + 1)).map y := g'.cols
    refine ⟨(List.range (st.there - b)).map y, by simp, ?_⟩
    rw [cols, key, List.range_succ, List.map_append, ← List.append_assoc]
    congr 1
    have := range_split (st.there - b) b y
    rw [show st.there - b + b = st.there by omega] at this
    rw [this]
    congr 1
    unfold tailK
    refine map_range_eq fun i hi => ?_
    show y (st.there - b + i) = altC (y st.there) (y (st.there - 1)) (b - i)
    have hq : q < st.there - b := by
      unfold clo at h2
      simp only [Bool.or_eq_true, decide_eq_true_eq, beq_iff_eq] at h2
      omega
    rw [ha (st.there - b + i) (by omega) (by omega), ha st.there (by omega) (Nat.le_refl _), ha (st.there - 1) (by omega) (by omega)]
    generalize hy : y (q + 1) = o
    generalize hx : x q = w
    have p1 : (st.there - b + i - q) % 2 = 0 ∨ (st.there - b + i - q) % 2 = 1 := by omega
    have p2 : (st.there - q) % 2 = 0 ∨ (st.there - q) % 2 = 1 := by omega
    have p3 : (b - i) % 2 = 0 ∨ (b - i) % 2 = 1 := by omega
    rcases p3 with p3 | p3
    · rw [altC_even (own := altC w o (st.there - q)) p3]
      exact altC_par (by omega)
    · rw [altC_odd (own := altC w o (st.there - q)) p3]
      exact altC_par (by omega)
theorem close_tail {s : Int} {k : KK} {u : Val} {A : List Int} (_hb : b < T.n) (hA : A.length = T.n - b) (e : u.2 = A ++ (tailK b k ++ [k.2])) : closeV T b s u = (u.1 - T.price b s, tailK b k ++ A) := by
  have l1 : (tailK b k).length = b := by unfold tailK; simp
  have e1 : u.2.dropLast = A ++ tailK b k := by rw [e, ← List.append_assoc, List.dropLast_concat]
  unfold closeV
  rw [e1, List.length_append, hA, l1, show T.n - b + b - b = A.length by omega, List.drop_left, List.take_left]
theorem close_mono {s f s' f' : Int} {k : KK} {u u' : Val} (hb : b < T.n) (P : T.RingAt b s f k u) (P' : T.RingAt b s' f' k u') (h : vle u' u) : vle (closeV T b s u') (closeV T b s u) := by
  obtain ⟨A, hA, e⟩ := ring_tail hb P
  obtain ⟨A', hA', e'⟩ := ring_tail hb P'
  rw [close_tail hb hA e, close_tail hb hA' e']
  rcases h with h | ⟨h, h'⟩
  · exact .inl (by show u'.1 - _ < u.1 - _; omega)
  · rw [e, e'] at h'
    exact .inr ⟨by show u'.1 - _ = u.1 - _; omega, le_append_left _ (le_of_append_right (by omega) _ h')⟩
/-- the first cell that is not ready -/
theorem least_not {p : Nat → Bool} : ∀ n, (∃ k, k < n ∧ p k = false) → ∃ b, b < n ∧ p b = false ∧ ∀ j, j < b → p j = true
  | 0, ⟨k, h, _⟩ => absurd h (Nat.not_lt_zero _)
  | n + 1, ⟨k, h, hk⟩ => by
    by_cases e : ∃ k, k < n ∧ p k = false
    · obtain ⟨b, h1, h2⟩ := least_not n e
      exact ⟨b, by omega, h2⟩
    · have : k = n := by
        rcases Nat.lt_or_eq_of_le (Nat.lt_succ_iff.mp h) with q | q
        · exact absurd ⟨k, q, hk⟩ e
        · exact q
      subst this
      refine ⟨k, h, hk, fun j hj => ?_⟩
      cases q : p j with
      | true => rfl
      | false => exact absurd ⟨j, hj, q⟩ e
theorem cell_prv {j : Nat} (hb : b < T.n) (h : 0 < j) (hj : j < T.n) : T.cell b (j - 1) = prv T.n (T.cell b j) := by
  have p := pos_cell hb hj
  have q := pos_prv hb (cell_lt_n (T := T) (b := b) (by omega)) (k := T.cell b j) (by rw [p]; omega)
  rw [p] at q
  rw [← q]
  exact cell_pos hb (prv_lt (by omega) _)
theorem cell_nxt {j : Nat} (hb : b < T.n) (hj : j < T.n) : T.cell b (j + 1) = nxt T.n (T.cell b j) := by
  have p := pos_cell hb hj
  rcases Nat.lt_or_eq_of_le (show j + 1 ≤ T.n from hj) with w | w
  · have q := pos_nxt hb (cell_lt_n (T := T) (b := b) (by omega)) (k := T.cell b j) (by rw [p]; exact w)
    rw [p] at q
    rw [← q]
    exact cell_pos hb (nxt_lt' (by omega) _)
  · have q := pos_nxtL hb (cell_lt_n (T := T) (b := b) (by omega)) (k := T.cell b j) (by rw [p]; exact w)
    rw [w, cell_n hb]
    exact (pos_zero hb (nxt_lt' (by omega) _) q).symm
theorem ring_set (hn : 1 < T.n) (hlong : T.n + 1 ≤ T.longest) (v : Val) : T.RingSet v ↔ T.Spec v := by
  constructor
  · rintro ⟨b, s, f, k, u, hb, hs, hf, P, ks, hst, rfl⟩
    have P' := path_mono (fun p k s h => (List.mem_filter.mp h).1) P
    obtain ⟨x, D, g, x0⟩ := path_geo P'
    have x0 : x 0 = s := x0
    have key := g.key
    rw [if_neg (by omega)] at key
    have ex : x T.n = x 0 := by rw [x0, ← ks, key]
    have eu : u = (T.costTo b (T.n + 1) x, (List.range (T.n + 1)).map x) := Prod.ext g.cost g.cols
    have x1 : x 1 = f := g.fst f rfl (by omega)
    rw [eu, ← x0, close_calc hb ex]
    have hlen : ((List.range T.n).map (ringC T.n b x)).length = T.n := by simp
    have cc : ∀ k, k < T.n → cOf ((List.range T.n).map (ringC T.n b x)) k = ringC T.n b x k := fun k hk => cOf_map hk
    have nr : rdyC T.n T.held (ringC T.n b x) b = false := by
      cases q : rdyC T.n T.held (ringC T.n b x) b with
      | false => rfl
      | true =>
        exfalso
        obtain ⟨q1, q2, q3⟩ := rdyC_iff.mp q
        have a1 : ringC T.n b x (prv T.n b) = x (T.n - 1) := by unfold ringC; rw [pos_prv0 hb]
        have a2 : ringC T.n b x (nxt T.n b) = x 1 := by rw [x_nxt hb hb ex, pos_self hb]
        have a3 : ringC T.n b x b = x 0 := by unfold ringC; rw [pos_self hb]
        rw [a1, a2] at q2
        rw [a1, a3] at q3
        rw [key] at hst
        unfold Tb.still at hst
        rw [q1, ← x1, ← x0, q2] at hst
        rw [q2] at q3
        simp [q3] at hst
    have dc := depC_congr (fun k hk => (cc k hk).symm) (dep_ring hb ex g.dep nr)
    refine ⟨_, hlen, fun k hk => ?_, rfl, _, run_rest hlen dc fun k hk => ?_, fun k hk => ?_⟩
    · rw [cc k hk]
      have := g.dom (posR T.n b k) (Nat.le_of_lt (pos_lt_n hk))
      rw [cell_pos hb hk] at this
      exact this
    · have := g.dep.le (posR T.n b k) (Nat.le_of_lt (pos_lt_n hk))
      have := pos_lt_n (T := T) (b := b) hk
      omega
    · rw [cOf_map hk, cc k hk, cc _ (prv_lt (by omega) k)]
      by_cases z : posR T.n b k = 0
      · have kb := pos_zero hb hk z
        rw [z, g.dep.z0, if_pos (by rfl)]
        have := g.suit T.n (by omega) (Nat.le_refl _)
        unfold endc at this
        rw [g.dep.zp, if_pos (by rfl), cell_n hb, ex] at this
        unfold ringC
        rw [z, kb]
        exact this
      · have := g.suit (posR T.n b k) (by omega) (Nat.le_of_lt (pos_lt_n hk))
        rw [cell_pos hb hk] at this
        rw [x_prv hb hk z]
        exact this
  · rintro ⟨cs, hlen, hd, rfl, r, hr, hs⟩
    obtain ⟨b, hb, nb, below⟩ : ∃ b, b < T.n ∧ rdyC T.n T.held (cOf cs) b = false ∧ ∀ j, j < b → rdyC T.n T.held (cOf cs) j = true := by
      refine least_not T.n (Classical.byContradiction fun z => ?_)
      rw [run_swing (by omega) _ cs fun k hk => ?_] at hr
      · cases hr
      · cases q : rdyC T.n T.held (cOf cs) k with
        | true => rfl
        | false => exact absurd ⟨k, hk, q⟩ z
    let x : Nat → Int := fun j => cOf cs (T.cell b j)
    let R : Nat → Bool := fun j => rdyC T.n T.held (cOf cs) (T.cell b j)
    have ex : x T.n = x 0 := by
      show cOf cs (T.cell b T.n) = cOf cs (T.cell b 0)
      rw [cell_n hb, cell_lt (by omega)]
      rfl
    have dep : Dep T b x T.n (mkD R T.n) := by
      have e : ∀ j, 0 < j → j < T.n → (T.rdy b x j ↔ R j = true) := fun j h1 h2 => by
        show (_ ∧ cOf cs (T.cell b (j - 1)) = cOf cs (T.cell b (j + 1)) ∧ cOf cs (T.cell b (j - 1)) ≠ cOf cs (T.cell b j)) ↔ rdyC T.n T.held (cOf cs) (T.cell b j) = true
        rw [rdyC_iff, cell_prv hb h1 h2, cell_nxt hb h2]
      refine ⟨mkD_zero, mkD_last, fun j h1 h2 => ?_, fun j h1 h2 h3 => ?_⟩
      · rw [e j h1 h2]
        cases q : R j with
        | true => rw [mkD_rdy q h1 h2]; simp
        | false => rw [mkD_still q]; simp
      · cases q : R j with
        | true => exact mkD_rdy q h1 h2
        | false => exact absurd (mkD_still q) h3
    have rc : ∀ k, k < T.n → ringC T.n b x k = cOf cs k := fun k hk => by
      show cOf cs (T.cell b (posR T.n b k)) = _
      rw [cell_pos hb hk]
    have dc := depC_congr rc (dep_ring hb ex dep (by rw [rdyC_congr rc hb]; exact nb))
    have rr := run_rest hlen dc fun k hk => by
      have := dep.le (posR T.n b k) (Nat.le_of_lt (pos_lt_n hk))
      have := pos_lt_n (T := T) (b := b) hk
      omega
    rw [hr] at rr
    cases rr
    have es : ∀ j, 1 ≤ j → j ≤ T.n → T.suits (T.cell b j) (endc x (mkD R T.n) j) = true := fun j h1 h2 => by
      rcases Nat.lt_or_eq_of_le h2 with q | q
      · have := hs (T.cell b j) (cell_lt_n (by omega))
        rw [cOf_map (cell_lt_n (by omega)), pos_cell hb q, ← cell_prv hb h1 q] at this
        exact this
      · subst q
        have := hs b hb
        rw [cOf_map hb, pos_self hb, mkD_zero, if_pos (by rfl)] at this
        unfold endc
        rw [mkD_last, if_pos (by rfl), cell_n hb, ex]
        show T.suits b (cOf cs (T.cell b 0)) = true
        rw [cell_lt (by omega)]
        exact this
    have P := geo_path (first := some (x 1)) (S := (· = x 0)) (cl := clo T.n b) dep (fun j _ => hd _ (cell_lt_n (by omega))) (.inr rfl) es rfl hlong (fun q p h1 h2 h3 h4 => by
      unfold clo
      simp only [Bool.or_eq_true, decide_eq_true_eq, beq_iff_eq]
      rcases Nat.lt_or_eq_of_le h2 with w | w
      · exact .inl (.inl w)
      · rcases Nat.lt_or_ge q (T.n - b) with z | z
        · exact .inr z
        · rcases Nat.eq_zero_or_pos b with b0 | b0
          · exact .inl (.inr b0)
          · exfalso
            have rq : R q = false := by
              cases y : R q with
              | false => rfl
              | true => rw [mkD_rdy y (by omega) (by omega)] at h3; omega
            have := below (T.cell b q) (by rw [cell_ge (by omega) (by omega)]; omega)
            have rq' : rdyC T.n T.held (cOf cs) (T.cell b q) = false := rq
            rw [rq'] at this; cases this) T.n (Nat.le_refl _) mkD_last
    refine ⟨b, x 0, x 1, keyAt x T.n, _, hb, ?_, hd _ (cell_lt_n (by omega)), P, ex, ?_, ?_⟩
    · have := hd (T.cell b 0) (cell_lt_n (by omega))
      rw [cell_lt (by omega)] at this
      show cOf cs (T.cell b 0) ∈ T.dom b
      rw [cell_lt (by omega)]
      exact this
    · unfold keyAt Tb.still
      rw [if_neg (by omega)]
      have a1 : x (T.n - 1) = cOf cs (prv T.n b) := by
        show cOf cs (T.cell b (T.n - 1)) = _
        rw [← pos_prv0 hb, cell_pos hb (prv_lt (by omega) _)]
      have a2 : x 1 = cOf cs (nxt T.n b) := by
        show cOf cs (T.cell b (0 + 1)) = _
        rw [cell_nxt hb (by omega), cell_lt (by omega)]
        rfl
      have a3 : x 0 = cOf cs b := by
        show cOf cs (T.cell b 0) = _
        rw [cell_lt (by omega)]
        rfl
      cases hh : T.held b with
      | true => rfl
      | false =>
        by_cases e1 : x (T.n - 1) = x 1
        · by_cases e2 : x (T.n - 1) = x 0
          · simp [e2]
          · have := rdyC_iff.mpr (⟨hh, by rw [← a1, ← a2]; exact e1, by rw [← a1, ← a3]; exact e2⟩ : T.held b = false ∧ cOf cs (prv T.n b) = cOf cs (nxt T.n b) ∧ cOf cs (prv T.n b) ≠ cOf cs b)
            rw [nb] at this; cases this
        · simp [e1]
    · rw [close_calc hb ex]
      have e2 : (List.range T.n).map (ringC T.n b x) = cs := by
        have l := list_cOf hlen
        rw [map_range_eq rc, ← l]
      rw [e2]
end
end Flk

set_option Elab.async false
set_option linter.all false
set_option maxRecDepth 100000
set_option maxHeartbeats 4000000
/-! Rules of this proof's own, 1: a dict whose keys are pairs (None or an int, an int). -/
namespace Flk
open PySem PySem.Spec PyProof.Rows L2

def oV : Option Int → V
  | none => .non
  | some i => .int i
def keyV (k : KK) : List V := [oV k.1, .int k.2]
def oN : Option Int → NestedKey
  | none => .none
  | some i => .num i
def nk (k : KK) : NestedKey := .tup [oN k.1, .num k.2]
theorem oN_inj {a b : Option Int} (h : oN a = oN b) : a = b := by
  cases a <;> cases b
  · rfl
  · cases h
  · cases h
  · injection h with h; rw [h]
theorem nk_inj {a b : KK} (h : nk a = nk b) : a = b := by
  obtain ⟨a1, a2⟩ := a
  obtain ⟨b1, b2⟩ := b
  unfold nk at h
  injection h with h
  injection h with h1 h2
  injection h2 with h2 _
  injection h2 with h2
  simp only at h1 h2
  rw [oN_inj h1, h2]
theorem nk_depth (k : KK) : (nk k).depth ≤ 8 := by
  obtain ⟨a, b⟩ := k
  cases a <;> simp [nk, oN, NestedKey.depth, NestedKey.depthAll]
/-- at b stands the tuple of the key -/
def KeyAt (H : Hp) (k : KK) (b : Addr) : Prop := H b = some (.tup (keyV k))
theorem nest_of {h : Heap} {o : Option Int} {u : Value} (r : RelV (oV o) u) : NestedIs h (oN o) u := by
  cases o with
  | none => cases (show u = Value.none from r); exact .none
  | some i =>
    obtain ⟨t, e⟩ := (show ∃ t, u = Value.int i t from r)
    subst e
    exact .int i t
theorem key_is {P : Program} {w : World} {H : Hp} {h : Heap} {k : KK} {b : Addr} (ok : HOk P w H h) (e : KeyAt H k b) : (nestedKind P w).is h (nk k) b := by
  obtain ⟨_, its, r, o, h1, h2, n, h3⟩ := (show ObjOk P w H h b (.tup (keyV k)) from ok b _ e)
  refine ⟨.tup h1 h2 h3 ?_, nk_depth k⟩
  cases r with
  | cons r1 r =>
    cases r with
    | cons r2 r =>
      cases r
      obtain ⟨t, e2⟩ := (show ∃ t, _ = Value.int k.2 t from r2)
      subst e2
      exact .cons (nest_of r1) (.cons (.int _ t) .nil)

abbrev DE := KK × Addr × V
def lookE (es : List DE) (k : KK) : Option V := (es.find? fun e => decide (e.1 = k)).map (·.2.2)
def putE (es : List DE) (k : KK) (b : Addr) (v : V) : List DE :=
  if (lookE es k).isSome = true then es.map (fun e => if e.1 = k then (e.1, e.2.1, v) else e) else es ++ [(k, b, v)]
abbrev RE (e : DE) (x : NestedKey × Addr × Value) : Prop := nk e.1 = x.1 ∧ e.2.1 = x.2.1 ∧ RelV e.2.2 x.2.2
/-- the dict at d, with the entries es in their order -/
def DN (P : Program) (w : World) (d : Addr) (es : List DE) : HO := .ext fun h => (d == sysModules) = false ∧ es.length ≤ 1000000 ∧
  ∃ xs : List (NestedKey × Addr × Value), Paired RE es xs ∧ ∃ o ds ep, h.get? d = some o ∧ o.ExactDict ∧ o.data = .dict ds ep ∧ ds.toList = xs.map (entryOfKey (nestedKind P w)) ∧ (xs.map (·.1)).Nodup
/-- all keys' tuples stand -/
def KeysAt (H : Hp) (es : List DE) : Prop := ∀ e ∈ es, KeyAt H e.1 e.2.1
theorem look_pair {es : List DE} {xs : List (NestedKey × Addr × Value)} (r : Paired RE es xs) (k : KK) : RelO (lookE es k) ((atKey xs (nk k)).map (·.2)) := by
  induction r with
  | nil => exact True.intro
  | @cons p q ps qs h t ih =>
    obtain ⟨h1, h2, h3⟩ := h
    unfold lookE atKey at ih ⊢
    rw [List.find?_cons, List.find?_cons]
    by_cases e : p.1 = k
    · rw [decide_eq_true e, decide_eq_true (show q.1 = nk k from by rw [← h1, e])]
      exact h3
    · rw [decide_eq_false e, decide_eq_false (show ¬ q.1 = nk k from fun z => e (nk_inj (h1.trans z)))]
      exact ih
theorem relO_isSome {o : Option V} {u : Option Value} (r : RelO o u) : o.isSome = u.isSome := by
  cases o <;> cases u <;> first | rfl | exact (show False from r).elim
theorem put_pair {es : List DE} {xs : List (NestedKey × Addr × Value)} (r : Paired RE es xs) (k : KK) (b : Addr) {v : V} {u : Value} (rv : RelV v u) : Paired RE (putE es k b v) (storedH xs (nk k) b u) := by
  have e : (lookE es k).isSome = (atKey xs (nk k)).isSome := by rw [relO_isSome (look_pair r k), Option.isSome_map]
  unfold putE storedH
  rw [e]
  by_cases q : (atKey xs (nk k)).isSome = true
  · rw [if_pos q, if_pos q]
    clear e q
    induction r with
    | nil => exact .nil
    | @cons p q ps qs h t ih =>
      rw [List.map_cons, List.map_cons]
      refine .cons ?_ ih
      obtain ⟨h1, h2, h3⟩ := h
      unfold putAt
      by_cases z : p.1 = k
      · rw [if_pos z, if_pos (show q.1 = nk k from by rw [← h1, z])]; exact ⟨h1, h2, rv⟩
      · rw [if_neg z, if_neg (show ¬ q.1 = nk k from fun y => z (nk_inj (h1.trans y)))]; exact ⟨h1, h2, h3⟩
  · rw [if_neg q, if_neg q]
    exact Paired.snoc r ⟨rfl, rfl, rv⟩
theorem putE_length (es : List DE) (k : KK) (b : Addr) (v : V) : (putE es k b v).length ≤ es.length + 1 := by
  unfold putE
  split
  · rw [List.length_map]; exact Nat.le_succ _
  · rw [List.length_append]; exact Nat.le_refl _
theorem keys_pair {P : Program} {w : World} {H : Hp} {h : Heap} (ok : HOk P w H h) {es : List DE} {xs : List (NestedKey × Addr × Value)} (r : Paired RE es xs) (ks : KeysAt H es) : ∀ x ∈ xs, (nestedKind P w).is h x.1 x.2.1 := by
  induction r with
  | nil => intro x hx; cases hx
  | @cons p q ps qs hr t ih =>
    intro x hx
    rcases List.mem_cons.mp hx with e | hx
    · subst e
      rw [← hr.1, ← hr.2.1]
      exact key_is ok (ks _ List.mem_cons_self)
    · exact ih (fun e he => ks e (List.mem_cons_of_mem _ he)) x hx
theorem dn_get {P : Program} {w : World} {H : Hp} {h : Heap} {d : Addr} {es : List DE} (ok : HOk P w H h) (e : H d = some (DN P w d es)) (ks : KeysAt H es) :
    (d == sysModules) = false ∧ es.length ≤ 1000000 ∧ ∃ xs, Paired RE es xs ∧ h.DictOfH (nestedKind P w) d xs := by
  obtain ⟨⟨h1, h2, xs, r, o, ds, ep, a1, a2, a3, a4, a5⟩, _, _⟩ := (show ObjOk P w H h d (DN P w d es) from ok d _ e)
  exact ⟨h1, h2, xs, r, o, ds, ep, a1, a2, a3, a4, keys_pair ok r ks, a5⟩
theorem dn_new {P : Program} {w : World} {H : Hp} {h : Heap} {d : Addr} {es : List DE} {xs : List (NestedKey × Addr × Value)} (hd : (d == sysModules) = false) (hl : es.length ≤ 1000000) (r : Paired RE es xs) (D : h.DictOfH (nestedKind P w) d xs) :
    ObjOk P w H h d (DN P w d es) := by
  obtain ⟨o, ds, ep, a1, a2, a3, a4, _, a5⟩ := D
  refine ⟨⟨hd, hl, xs, r, o, ds, ep, a1, a2, a3, a4, a5⟩, ⟨o, a1⟩, fun h1 h2 p k => ?_⟩
  obtain ⟨b1, b2, ys, r', o', ds', ep', c1, c2⟩ := p
  exact ⟨b1, b2, ys, r', o', ds', ep', k _ c1, c2⟩

section
variable {X : Cx} {pos : Pos}
/-- {} -/
def tDNew (P : Program) (w : World) : TE := fun _ H Q => ∀ p, H p = none → Q (.ref p) (upd H p (DN P w p []))
theorem pe_dnewN : PE X (.Dict [] [] pos) (tDNew X.prog X.w) := ⟨fun pins s σ H Q I h =>
  wpAny_Dict_empty ⟨.ref s.heap.objs.size, _, I.laid (a := s.heap.objs.size) (o := DN X.prog X.w s.heap.objs.size []) (t' := s.toks) (fun _ _ q => Heap.get?_push_of_some _ q) (Nat.le_refl _)
    (dn_new (beq_eq_false_iff_ne.mpr (Ne.symm (Nat.ne_of_lt I.big))) (Nat.zero_le _) .nil (Heap.DictOfH.new _)), rfl, h _ (I.hok.fresh (Nat.le_refl _))⟩⟩
theorem room8 {A : Around} (hu : A.units + 64 < cLine) : (nestedKind X.prog X.w).room A.in1 := by
  show A.in1.units + 8 < cLine
  rw [Around.in1_units]
  omega
/-- d[k] -/
def rGetN (P : Program) (w : World) : R2 := fun x y H Q => ∃ d es k b v, x = .ref d ∧ y = .ref b ∧ H d = some (DN P w d es) ∧ KeysAt H es ∧ KeyAt H k b ∧ lookE es k = some v ∧ Q v H
theorem ix_dn (hu : X.A.units + 64 < cLine) : IxR X (rGetN X.prog X.w) := by
  intro value slice pins s σ H x y v u Q I rx ry h hs
  obtain ⟨d, es, k, b, z, rfl, rfl, hd, ks, kb, hl, q⟩ := h
  cases rx
  cases ry
  obtain ⟨h1, h2, xs, r, D⟩ := dn_get I.hok hd ks
  have rl := look_pair r k
  rw [hl] at rl
  cases e : (atKey xs (nk k)).map (·.2) with
  | none => rw [e] at rl; exact (show False from rl).elim
  | some u =>
    rw [e] at rl
    obtain ⟨p, hp, rfl⟩ := Option.map_eq_some_iff.mp e
    exact tail_any D.typeIs F.slot_dict_getitem.lookup (wpAny_getItem_heap (room8 hu) (key_is I.hok kb) D hp ⟨z, H, I.tok _, rl, q⟩) hs
/-- k in d -/
def rInN (P : Program) (w : World) : R2 := fun x y H Q => ∃ d es k b, x = .ref b ∧ y = .ref d ∧ H d = some (DN P w d es) ∧ KeysAt H es ∧ KeyAt H k b ∧ Q (.bl (lookE es k).isSome) H
theorem op_inDN (hu : X.A.units + 64 < cLine) : OpR X (compareOp .In) (rInN X.prog X.w) := by
  intro pins s σ H x y v u Q I rx ry h
  obtain ⟨d, es, k, b, rfl, rfl, hd, ks, kb, q⟩ := h
  cases rx
  cases ry
  obtain ⟨h1, h2, xs, r, D⟩ := dn_get I.hok hd ks
  refine wpAny_in_heap (room8 hu) (key_is I.hok kb) h1 D ⟨.bl (lookE es k).isSome, H, I.tok _, ?_, q⟩
  show _ = Value.bool _
  rw [relO_isSome (look_pair r k), Option.isSome_map]
/-- d[k] = v -/
def rSetN (P : Program) (w : World) : TSet := fun o i v H Q => ∃ d es k b, o = .ref d ∧ i = .ref b ∧ H d = some (DN P w d es) ∧ KeysAt H es ∧ KeyAt H k b ∧ es.length < 1000000 ∧ Q (upd H d (DN P w d (putE es k b v)))
theorem set_dn (hu : X.A.units + 64 < cLine) : PSet X (rSetN X.prog X.w) := by
  intro pins s σ H o i v ov iv u Q I ro ri rv h
  obtain ⟨d, es, k, b, rfl, rfl, hd, ks, kb, hlen, q⟩ := h
  cases ro
  cases ri
  obtain ⟨h1, h2, xs, r, D⟩ := dn_get I.hok hd ks
  have hz : xs.length ≤ sizeLine := by rw [← Paired.length r, sizeLine_eq]; omega
  refine wpAny_setItem_heap (hsz := hz) (room8 hu) (key_is I.hok kb) D fun h' D' hs => ?_
  refine ⟨_, d_write I (by rw [hd]; exact True.intro) hs (let ⟨q, _, _, hq, _⟩ := D'; ⟨q, hq⟩) (dn_new h1 ?_ (put_pair r k b rv) D'), q⟩
  have := putE_length es k b v
  omega
end
/-! ### what the entries say -/
theorem lookE_put (es : List DE) (k j : KK) (b : Addr) (v : V) : lookE (putE es k b v) j = if j = k then some v else lookE es j := by
  unfold putE
  split
  · rename_i h
    induction es with
    | nil => cases h
    | cons e es ih =>
      unfold lookE at ih h ⊢
      rw [List.map_cons, List.find?_cons]
      by_cases e1 : e.1 = k
      · rw [if_pos e1]
        by_cases e2 : j = k
        · rw [if_pos e2, decide_eq_true (show e.1 = j from e1.trans e2.symm)]
          rfl
        · rw [if_neg e2, decide_eq_false (show ¬ e.1 = j from fun z => e2 (z.symm.trans e1))]
          dsimp only
          rw [List.find?_cons, decide_eq_false (show ¬ e.1 = j from fun z => e2 (z.symm.trans e1))]
          clear ih h
          dsimp only
          induction es with
          | nil => rfl
          | cons f es ih =>
            rw [List.map_cons, List.find?_cons, List.find?_cons]
            by_cases f1 : f.1 = k
            · rw [if_pos f1, decide_eq_false (show ¬ f.1 = j from fun z => e2 (z.symm.trans f1))]
              exact ih
            · rw [if_neg f1]
              cases decide (f.1 = j)
              · exact ih
              · rfl
      · rw [if_neg e1]
        rw [List.find?_cons, decide_eq_false e1] at h
        rw [List.find?_cons]
        cases e3 : decide (e.1 = j)
        · dsimp only
          exact ih h
        · dsimp only
          have : j ≠ k := fun z => e1 ((of_decide_eq_true e3).trans z)
          rw [if_neg this]
  · rename_i h
    have hn : lookE es k = none := by
      cases q : lookE es k with
      | none => rfl
      | some y => rw [q] at h; exact absurd rfl h
    unfold lookE at hn ⊢
    rw [List.find?_append]
    by_cases e : j = k
    · subst e
      rw [if_pos rfl, Option.map_eq_none_iff.mp hn]
      simp
    · rw [if_neg e]
      have : (List.find? (fun e => decide (e.1 = j)) [(k, b, v)]) = none := by
        rw [List.find?_cons, decide_eq_false (show ¬ k = j from fun z => e z.symm)]
        rfl
      rw [this]
      cases List.find? (fun e => decide (e.1 = j)) es <;> rfl
theorem putE_keys {H : Hp} {es : List DE} {k : KK} {b : Addr} {v : V} (ks : KeysAt H es) (kb : KeyAt H k b) : KeysAt H (putE es k b v) := by
  unfold putE
  split
  · intro e he
    obtain ⟨f, hf, rfl⟩ := List.mem_map.mp he
    split
    · exact ks f hf
    · exact ks f hf
  · intro e he
    rcases List.mem_append.mp he with he | he
    · exact ks e he
    · rw [List.mem_singleton.mp he]; exact kb
theorem KeysAt.keep {H H' : Hp} {es : List DE} (ks : KeysAt H es) (h : ∀ b xs, H b = some (.tup xs) → H' b = some (.tup xs)) : KeysAt H' es := fun e he => h _ _ (ks e he)
theorem putE_mem {es : List DE} {k : KK} {b : Addr} {v : V} {e : DE} (h : e ∈ putE es k b v) : (e.1 = k ∧ e.2.2 = v) ∨ e ∈ es := by
  unfold putE at h
  split at h
  · obtain ⟨f, hf, rfl⟩ := List.mem_map.mp h
    split
    · exact .inl ⟨‹_›, rfl⟩
    · exact .inr hf
  · rcases List.mem_append.mp h with h | h
    · exact .inr h
    · rw [List.mem_singleton.mp h]; exact .inl ⟨rfl, rfl⟩
theorem putE_nodup {es : List DE} {k : KK} {b : Addr} {v : V} (h : (es.map (·.1)).Nodup) : ((putE es k b v).map (·.1)).Nodup := by
  unfold putE
  split
  · rw [List.map_map]
    have : (es.map ((fun x : DE => x.1) ∘ fun e => if e.1 = k then (e.1, e.2.1, v) else e)) = es.map (·.1) := List.map_congr_left fun e _ => by
      show (if e.1 = k then ((e.1, e.2.1, v) : DE) else e).1 = e.1
      split <;> rfl
    rw [this]; exact h
  · rename_i hn
    rw [List.map_append, List.nodup_append]
    refine ⟨h, by simp, fun a ha c hc e => ?_⟩
    rw [List.map_singleton, List.mem_singleton] at hc
    obtain ⟨f, hf, e2⟩ := List.mem_map.mp ha
    apply hn
    have hk : f.1 = k := e2.trans (e.trans hc)
    unfold lookE
    rw [Option.isSome_map, List.find?_isSome]
    exact ⟨f, hf, decide_eq_true hk⟩
theorem lookE_mem {es : List DE} {k : KK} {v : V} (h : lookE es k = some v) : ∃ e ∈ es, e.1 = k ∧ e.2.2 = v := by
  unfold lookE at h
  obtain ⟨e, he, rfl⟩ := Option.map_eq_some_iff.mp h
  have hk := List.find?_some he
  exact ⟨e, List.mem_of_find?_eq_some he, by simpa using hk, rfl⟩
theorem lookE_of {es : List DE} (hn : (es.map (·.1)).Nodup) {e : DE} (he : e ∈ es) : lookE es e.1 = some e.2.2 := by
  induction es with
  | nil => cases he
  | cons f es ih =>
    unfold lookE at ih ⊢
    rw [List.map_cons, List.nodup_cons] at hn
    rw [List.find?_cons]
    rcases List.mem_cons.mp he with q | q
    · rw [← q, decide_eq_true rfl]; rfl
    · rw [decide_eq_false (fun z => hn.1 (by rw [z]; exact List.mem_map.mpr ⟨e, q, rfl⟩))]
      exact ih hn.2 q
end Flk

set_option Elab.async false
set_option linter.all false
set_option maxRecDepth 100000
set_option maxHeartbeats 4000000
/-! Rules of this proof's own, 2: the keys of a dict, sorted; the text of a pair. -/
namespace Flk
open PySem PySem.Spec PyProof.Rows L2 PySem.W

/-! ### str of a pair, whatever is being written around it -/
theorem any_guards {α : Type} {M : Model} {A : Around} {t : Sem α} {Q : α → Shared → Prop} {E : Value → Shared → Prop} {s : Shared} (h : ∀ g, wpAny M { A with guards := some g } t Q E s) : wpAny M A t Q E s :=
  fun Γ p hΓ => h (Γ.code.guards ++ guardsOf Γ.below) Γ p ⟨hΓ.1, hΓ.2.1, hΓ.2.2.1, fun g e => by cases e; rfl, hΓ.2.2.2.2⟩
def textO : Option Int → Str
  | none => "None"
  | some i => toString i
/-- what str makes of a key's tuple at b, the guards being g -/
def textK (g : List Code) (k : KK) (b : Addr) : Str := if (g.any fun c => tupGuardF (.ref b) (c, default)) = true then "(...)" else tupleText [textO k.1, toString k.2]
def SmallK (k : KK) : Prop := (∀ i, k.1 = some i → i.natAbs < 1000) ∧ k.2.natAbs < 1000
theorem log_small {i : Int} (h : i.natAbs < 1000) : i.natAbs.log2 < 1920 := by
  have : i.natAbs.log2 ≤ i.natAbs := Nat.log2_le_self _
  omega
theorem reprO {P : Program} {w : World} {o : Option Int} {u : Value} (r : RelV (oV o) u) (h : ∀ i, o = some i → i.natAbs < 1000) : ReprIs P w u (textO o) := by
  cases o with
  | none => cases (show u = Value.none from r); exact ReprIs.none
  | some i =>
    obtain ⟨t, e⟩ := (show ∃ t, u = Value.int i t from r)
    subst e
    exact ReprIs.int t (log_small (h i rfl))
theorem digits_len (n : Nat) (h : n < 1000) : (toString ((n : Nat) : Int) : Str).length ≤ 10 := by
  have : ∀ m : Fin 1000, (toString ((m.val : Nat) : Int) : Str).length ≤ 10 := by decide +kernel
  exact this ⟨n, h⟩
theorem digits_len' (n : Nat) (h : n < 1000) : (toString (-((n : Nat) : Int)) : Str).length ≤ 10 := by
  have : ∀ m : Fin 1000, (toString (-((m.val : Nat) : Int)) : Str).length ≤ 10 := by decide +kernel
  exact this ⟨n, h⟩
theorem int_len {i : Int} (h : i.natAbs < 1000) : (toString i : Str).length ≤ 10 := by
  rcases Int.natAbs_eq i with e | e
  · rw [e]; exact digits_len _ h
  · rw [e]; exact digits_len' _ h
theorem textO_len {o : Option Int} (h : ∀ i, o = some i → i.natAbs < 1000) : (textO o).length ≤ 10 := by
  cases o with
  | none => decide
  | some i => exact int_len (h i rfl)
theorem pair_len {a b : Str} (ha : a.length ≤ 10) (hb : b.length ≤ 10) : (tupleText [a, b]).length ≤ sizeLine := by
  have h := join_length_add [a, b] (by simp)
  have p : piled [a, b] = (a.length + 2) + ((b.length + 2) + 0) := by rw [piled_cons, piled_cons]; rfl
  unfold tupleText
  rw [strLen_append, strLen_append]
  have e1 : ((if [a, b].length == 1 then ",)" else ")" : String) : Str).length ≤ 2 := by
    show (Str.ofString ")").length ≤ 2
    decide
  have e2 : ("(" : Str).length = 1 := rfl
  rw [sizeLine_eq]
  omega
section
variable {P : Program} {w : World} {A : Around} {E : Value → Shared → Prop} {s : Shared} {b : Addr} {k : KK} {g : List Code}
theorem call_repr_pair {o : Obj} {us : Array Value} {n : Nat} {Q : Value → Shared → Prop} (hg : A.guards = some g) (ho : s.heap.get? b = some o) (hc : o.cls = .type "tuple") (hd : o.data = .seq us n) (hT : ReprAll P w us.toList [textO k.1, toString k.2])
    (hz : (tupleText [textO k.1, toString k.2]).length ≤ sizeLine) (hQ : ∀ u tk, Q (.str (textK g k b) u) { s with toks := tk }) : wpAny (model P w) A (call (.builtin "tuple.__repr__") [.ref b]) Q E s := by
  have hTy : s.TypeIs (.ref b) "tuple" := ⟨o, ho, hc⟩
  cases hn : (g.any fun c => tupGuardF (.ref b) (c, default)) with
  | false =>
    refine call_tuple_repr hTy hg (fun c hm => ?_) ho hd hT (fun u tk => ?_) hz
    · exact Bool.eq_false_iff.mpr (List.any_eq_false.mp hn c hm)
    · have := hQ u tk
      unfold textK at this
      rw [hn, if_neg Bool.false_ne_true] at this
      exact this
  | true =>
    refine wpAny_call (codeAny_call_builtin_own (Code.quiet_builtin _ (by decide +kernel)) F.entry_tuple_repr (F.slot_tuple_repr.check _ _ _ _ _ _ _ _ hTy (F.args_tuple_repr_1 _) ?_))
    show wpOwn (model P w) A _ (Builtin.tupleReprAt 0 ⟨[.ref b], []⟩) _ _ s
    rw [tuple_repr_tree, tupleReprUnderWay_eq]
    refine wpOwn_bind (wpOwn_stackTailAny hg (tupGuardF_off _) (tupGuardF_pos _) ?_)
    rw [hn]
    refine wpOwn_of_wpAny (wpAny_bind (wpAny_rule ?_))
    refine wpAny_bind (wpAny_mkStr (wpAny_pure ?_))
    have := hQ s.toks (s.toks + 1)
    unfold textK at this
    rw [hn, if_pos rfl] at this
    exact this
theorem call_str_pair {H : Hp} {Q : Value → Shared → Prop} (hu : A.units + 8 < cLine) (hg : A.guards = some g) (hk : ∃ (o : Obj) (us : List Value) (n : Nat), s.heap.get? b = some o ∧ o.cls = .type "tuple" ∧ o.data = .seq us.toArray n ∧ Vals (keyV k) us) (sm : SmallK k)
    (hQ : ∀ u tk, Q (.str (textK g k b) u) { s with toks := tk }) : wpAny (model P w) A (call (.type "str") [.ref b]) Q E s := by
  obtain ⟨o, us, n, ho, hc, hd, rv⟩ := hk
  have hz := pair_len (textO_len sm.1) (int_len sm.2)
  have hT : ∀ (P : Program) (w : World), ReprAll P w us.toArray.toList [textO k.1, toString k.2] := fun P w => by
    cases rv with
    | cons r1 rv =>
      cases rv with
      | cons r2 rv =>
        cases rv
        exact .cons (reprO r1 sm.1) (.cons (reprO (o := some k.2) r2 fun i e => by cases e; exact sm.2) .nil)
  refine callType_new F.called_str (by decide) (F.typeCall_str_1 _) (F.newCall_str_1 _) (fun obj => F.args_object_init_2 obj _) F.entry_str_new
    (meets_str_new (S := fun A' R s' => A'.guards = some g ∧ A'.units + 7 < cLine ∧ s'.heap.get? b = some o ∧ ∀ u tk, R (.ok (.ret (.str (textK g k b) u))) { s' with toks := tk })
      fun P' w' A' R s' h => ?_) ⟨hg, by show A.units + 1 + 7 < cLine; omega, ho, fun u tk => ⟨typeIs_str _ _ _, hQ u tk⟩⟩
  obtain ⟨h1, h2, h3, h4⟩ := h
  exact wpAny_strOf_slot rfl (by show A'.units + 1 + 1 < cLine; omega) ⟨o, h3, hc⟩ F.slot_tuple_str F.slot_tuple_repr
    (call_repr_pair (A := A'.in1.in1) h1 h3 hc hd (hT P' w') hz fun u tk => ⟨_, _, rfl, h4 u tk⟩)
end

/-! ### d.keys() -/
def VW (p d : Addr) : HO := .ext fun h => KdlKeysView h p d
theorem vw_new {P : Program} {w : World} {H : Hp} {h : Heap} {p d : Addr} (v : KdlKeysView h p d) : ObjOk P w H h p (VW p d) :=
  ⟨v, let ⟨o, e, _⟩ := v; ⟨o, e⟩, fun h1 h2 x k => let ⟨o, e, c⟩ := x; ⟨o, k o e, c⟩⟩
def IsDk (P : Program) (w : World) (H : Hp) (d : Addr) : Prop := (∃ kvs, H d = some (.dK kvs)) ∨ ∃ es, H d = some (DN P w d es)
theorem raw_of {P : Program} {w : World} {H : Hp} {h : Heap} {d : Addr} (ok : HOk P w H h) (e : IsDk P w H d) : (d == sysModules) = false ∧ ∃ ds ep, h.DictRaw d ds ep := by
  rcases e with ⟨kvs, e⟩ | ⟨es, e⟩
  · obtain ⟨_, h1, vs, _, D⟩ := dk_of ok e
    obtain ⟨ds, ep, r, _⟩ := D.raw
    exact ⟨h1, ds, ep, r⟩
  · obtain ⟨⟨h1, _, xs, _, o, ds, ep, a1, a2, a3, _⟩, _, _⟩ := (show ObjOk P w H h d (DN P w d es) from ok d _ e)
    exact ⟨h1, ds, ep, o, a1, a2, a3⟩
def tKeys (P : Program) (w : World) (to : TE) : TE := fun σ H Q => to σ H fun x H1 => ∃ d, x = .ref d ∧ IsDk P w H1 d ∧ ∀ p, H1 p = none → Q (.ref p) (upd H1 p (VW p d))
section
variable {X : Cx} {e : Expr} {te : TE} {apos cpos : Pos}
theorem pe_keys (he : PE X e te) (hbase : attributeBase e "keys" X.env (eval e X.env) = eval e X.env := by rfl) (hline : (apos.endLine == cpos.line) = true := by rfl) : PE X (.Call (.Attribute e "keys" apos) [] [] cpos) (tKeys X.prog X.w te) := by
  refine ⟨fun pins s σ H Q I h => ?_⟩
  refine wpAny_Call_method (T := "dict") (id := "dict.keys") hbase rfl hline F.plainAttrs_dict F.slot_dict_keys F.type_dict_keys (thn (he.run pins s σ H _ I h) fun u s1 ⟨x, H1, I1, rx, d, ex, hd, q⟩ => ?_)
  subst ex
  obtain rfl : u = Value.ref d := rx
  obtain ⟨h1, ds, ep, r⟩ := raw_of I1.hok hd
  refine ⟨r.typeIs, let ⟨o, ho, hc, _⟩ := r; fun a e => ⟨o, by cases e; exact ho, hc.2.1⟩, ?_⟩
  show wpAny _ _ (callWith cpos (.builtin "dict.keys") [.ref d] [] []) _ X.xe s1
  refine method_meetsIn F.slot_dict_keys F.entry_dict_keys rfl (PySem.evalArgs_none ⟨rfl, r.typeIs, F.args_dict_keys_1 _, _, meets_dict_keys_raw d h1, ⟨ds, ep, r⟩, ?_⟩)
  exact ⟨.ref s1.heap.objs.size, _, I1.laid (a := s1.heap.objs.size) (o := VW s1.heap.objs.size d) (t' := s1.toks) (fun _ _ q => Heap.get?_push_of_some _ q) (Nat.le_refl _) (vw_new ⟨_, Heap.get?_push_size _ rfl, rfl, rfl⟩), rfl, q _ (I1.hok.fresh (Nat.le_refl _))⟩
end

/-! ### sorted(d.keys(), ..): first the keys are gathered -/
section
variable {P : Program} {w : World} {A : Around} {E : Value → Shared → Prop} {s : Shared}
theorem src_raw {r d : Addr} {ds : Array DictEntry} {ep : Nat} : KdlSrc P w "dict_keys" r d ds.size (fun i v => ∃ hi : i < ds.size, v = ds[i].key) (fun h => KdlKeysView h r d ∧ h.DictRaw d ds ep) where
  type := fun _ hm => hm.1.typeIs
  there := fun _ hm => ⟨let ⟨_, ho, _⟩ := hm.1; Heap.lt_size ho, let ⟨_, ho, _⟩ := hm.2; Heap.lt_size ho⟩
  keep := fun _ _ hm hk => ⟨let ⟨o, ho, x⟩ := hm.1; ⟨o, hk r (.inl rfl) o ho, x⟩, hm.2.at fun o e => hk d (.inr rfl) o e⟩
  notList := by decide
  notTuple := by decide
  hint := fun _ _ _ _ hm hq => kdl_hint_keys hm.1.typeIs hq
  iter := fun _ s hh hm => by
    have hne : d ≠ s.heap.objs.size := let ⟨_, ho, _⟩ := hm.2; Nat.ne_of_lt (Heap.lt_size ho)
    exact ⟨_, _, (fun _ _ hq => wpAny_pyIter_keys_raw hm.1 hm.2 hq), Walks.rawKeys hh _ d hne ds ep, ⟨⟨_, Heap.get?_push_size _ rfl, rfl, rfl⟩, hm.2.at fun o e => Heap.get?_push_of_some _ e⟩⟩
/-- the keys, gathered into a list that is younger than all that was -/
theorem gather_keys {r d : Addr} {ds : Array DictEntry} {ep : Nat} {R : List Value → Shared → Prop} (hh : A.handled = none) (hv : KdlKeysView s.heap r d) (hm : s.heap.DictRaw d ds ep) (hn : ds.size ≤ sizeLine)
    (h : ∀ (h1 : Heap) (tk : Nat), (∀ b o, s.heap.get? b = some o → h1.get? b = some o) → s.heap.objs.size < h1.objs.size → R (ds.toList.map (·.key)) { s with heap := h1, toks := tk }) :
    wpAny (model P w) A (collect (.ref r)) R E s := by
  have K := src_raw (P := P) (w := w) (r := r) (d := d) (ds := ds) (ep := ep)
  have ok0 : KdlKeysView s.heap r d ∧ s.heap.DictRaw d ds ep := ⟨hv, hm⟩
  obtain ⟨lr, ld⟩ := K.there _ ok0
  let S := s.heap.objs.size
  let g : Heap := s.heap.push { cls := .type "list", data := .seq ([] : List Value).toArray }
  have up : ∀ b o, s.heap.get? b = some o → g.get? b = some o := fun b o e => Heap.get?_push_of_some _ e
  have atS : g.get? S = some { cls := .type "list", data := .seq #[] } := Heap.get?_push_size _ rfl
  have fin : ∀ (h1 : Heap) (tk : Nat) (acc : Array Value) (c : Nat), (∀ b o, b ≠ S → g.get? b = some o → h1.get? b = some o) → h1.get? S = some { cls := .type "list", dict := none, data := .seq acc c, slots := #[] } →
      ItemsOf (fun i v => ∃ hi : i < ds.size, v = ds[i].key) acc ds.size → R acc.toList { s with heap := h1, toks := tk } := by
    intro h1 tk acc c hk hS hacc
    have e : acc.toList = ds.toList.map (·.key) := by
      refine List.ext_getElem? fun i => ?_
      rw [List.getElem?_map, Array.getElem?_toList, Array.getElem?_toList]
      by_cases hi : i < ds.size
      · have hi' : i < acc.size := by rw [hacc.1]; exact hi
        obtain ⟨_, hv'⟩ := hacc.2 i acc[i] (Array.getElem?_eq_getElem hi')
        rw [Array.getElem?_eq_getElem hi', Array.getElem?_eq_getElem hi, hv']
        rfl
      · rw [Array.getElem?_eq_none (by rw [hacc.1]; omega), Array.getElem?_eq_none (by omega)]
        rfl
    rw [e]
    exact h h1 tk (fun b o q => hk b o (Nat.ne_of_lt (Heap.lt_size q)) (up b o q)) (Heap.lt_size hS)
  have ext := kdl_extend (A := A) (s := { s with heap := g }) K hh (K.keep _ _ ok0 fun b _ o e => up b o e) S (Nat.ne_of_gt lr) (Nat.ne_of_gt ld) (.ref S) 0 atS
    (R := fun q s' => ∃ (h1 : Heap) (tk : Nat) (acc : Array Value) (c : Nat), q = .ok (.ret (.ref S)) ∧ s' = { s with heap := h1, toks := tk } ∧ h1.get? S = some { cls := .type "list", dict := none, data := .seq acc c, slots := #[] } ∧ R acc.toList { s with heap := h1, toks := tk })
    (fun h1 tk acc c hk hS hacc => ⟨h1, tk, acc, c, rfl, rfl, hS, fin h1 tk acc c hk hS hacc⟩) hn
  unfold collect
  refine wpAny_bind (wpAny_runValue (codeAny_builtin entry_proto_collect' ?_))
  rw [Around.under_plainId F.plain_proto_collect _]
  show wpAny _ A.in1 (newList [] >>= fun l => again (.builtin "list.__iadd__" ⟨[l, .ref r], []⟩)) _ _ s
  refine wpAny_bind (wpAny_newObj_type (wpAny_pure ⟨plainId_quiet F.plain_list_iadd _, codeAny_builtin entry_list_iadd' ?_⟩))
  rw [Around.under_plainId F.plain_list_iadd _]
  refine wpAny_mono (show wpAny _ A.in1 (Builtin.List.listExtendWith (.ref S) (.ref r) (.ref S)) _ _ { s with heap := g } from ext) (fun f s' x => ?_) fun e s' x => ?_
  · cases f with
    | done f =>
      obtain ⟨h1, tk, acc, c, e, rfl, hS, hr⟩ := x
      cases e
      exact wpAny_bind (wpAny_load hS (wpAny_pure hr))
    | again c1 =>
      refine ⟨x.1, codeAny_mono x.2 fun q s2 y => ?_⟩
      obtain ⟨h1, tk, acc, c, rfl, rfl, hS, hr⟩ := y
      exact wpAny_bind (wpAny_load hS (wpAny_pure hr))
  · obtain ⟨_, _, _, _, e', _⟩ := x
    cases e'
theorem sorted_keys {r d : Addr} {ds : Array DictEntry} {ep : Nat} {kw : List (Str × Value)} {Q : Value → Shared → Prop} (hh : A.handled = none) (hv : KdlKeysView s.heap r d) (hm : s.heap.DictRaw d ds ep) (hn : ds.size ≤ sizeLine) (ha1 : argsOk "sorted" ⟨[.ref r], kw⟩)
    (body : ∀ (h1 : Heap) (tk : Nat) (B : Addr), (∀ b o, s.heap.get? b = some o → h1.get? b = some o) → s.heap.objs.size ≤ B → h1.get? B = some (seqObj "list" ((ds.toList.map (·.key)).toArray) 0) →
      wpAny (model P w) A.in1 (call (.builtin "list.sort") [.ref B] kw) (fun _ s' => Q (.ref B) s') E { s with heap := h1, toks := tk }) :
    wpAny (model P w) A (call (.builtin "sorted") [.ref r] kw) Q E s := by
  refine call_function_entry_kw kind_sorted plain_sorted entry_sorted ha1 ?_
  unfold Builtin.«sorted»
  refine wpAny_bind (m := checkCount "sorted" 1 1 _) (wpAny_pure ?_)
  refine wpAny_bind (gather_keys (A := A.in1) hh hv hm hn fun h' tk hk hlt => ?_)
  refine wpAny_bind (wpAny_newList ?_ (by rw [List.length_map, Array.length_toList]; exact hn))
  have hg := body (h'.push (seqObj "list" ((ds.toList.map (·.key)).toArray) 0)) tk h'.objs.size (fun b o q => Heap.get?_push_of_some _ (hk b o q)) (Nat.le_of_lt hlt) (Heap.get?_push_size _ rfl)
  refine wpAny_bind (wpAny_holding (wpAny_mono hg (fun _ s' x => ?_) fun _ _ e => e))
  exact wpAny_pure ⟨_, rfl, x⟩
end
end Flk

set_option Elab.async false
set_option linter.all false
set_option maxRecDepth 100000
set_option maxHeartbeats 4000000
/-! Rules of this proof's own, 3: sorted(d.keys()), sorted(d.keys(), key=str). -/
namespace Flk
open PySem PySem.Spec PyProof.Rows L2 PySem.W

theorem each_fun {β : Type} {f : β → Value} : ∀ {out : List Value} {bs : List β}, EachIs (fun v b => v = f b) out bs → out = bs.map f
  | _, _, .nil => rfl
  | _, _, .cons h t => by rw [h, each_fun t]; rfl
theorem fun_each {β : Type} {f : β → Value} : ∀ bs : List β, EachIs (fun v b => v = f b) (bs.map f) bs
  | [] => .nil
  | b :: bs => .cons rfl (fun_each bs)
theorem vals_refsE : ∀ es : List DE, Vals (es.map fun e => V.ref e.2.1) (es.map fun e => Value.ref e.2.1)
  | [] => .nil
  | e :: es => .cons rfl (vals_refsE es)
theorem keys_of {P : Program} {w : World} {H : Hp} {h : Heap} {d : Addr} {es : List DE} (ok : HOk P w H h) (e : H d = some (DN P w d es)) : ∃ ds ep, h.DictRaw d ds ep ∧ ds.size = es.length ∧ ds.toList.map (·.key) = es.map fun e => Value.ref e.2.1 := by
  obtain ⟨⟨h1, h2, xs, r, o, ds, ep, a1, a2, a3, a4, _⟩, _, _⟩ := (show ObjOk P w H h d (DN P w d es) from ok d _ e)
  have key : ∀ {es : List DE} {xs : List (NestedKey × Addr × Value)}, Paired RE es xs → (xs.map (entryOfKey (nestedKind P w))).map (·.key) = es.map fun e => Value.ref e.2.1 := by
    intro es xs r
    induction r with
    | nil => rfl
    | cons hr t ih =>
      rw [List.map_cons, List.map_cons, List.map_cons, ih, hr.2.1]
      rfl
  have e2 : ds.toList.map (·.key) = es.map fun e => Value.ref e.2.1 := by rw [a4]; exact key r
  refine ⟨ds, ep, ⟨o, a1, a2, a3⟩, ?_, e2⟩
  have := congrArg List.length e2
  rw [List.length_map, List.length_map, Array.length_toList] at this
  exact this
theorem view_of {P : Program} {w : World} {H : Hp} {h : Heap} {p d : Addr} (ok : HOk P w H h) (e : H p = some (VW p d)) : KdlKeysView h p d := (show ObjOk P w H h p (VW p d) from ok p _ e).1
theorem key_tuple {P : Program} {w : World} {H : Hp} {h : Heap} {k : KK} {b : Addr} (ok : HOk P w H h) (e : KeyAt H k b) : ∃ (o : Obj) (us : List Value) (n : Nat), h.get? b = some o ∧ o.cls = .type "tuple" ∧ o.data = .seq us.toArray n ∧ Vals (keyV k) us := by
  obtain ⟨_, its, r, o, h1, h2, n, h3⟩ := (show ObjOk P w H h b (.tup (keyV k)) from ok b _ e)
  exact ⟨o, its, n, h1, h2, h3, r⟩
section
variable {X : Cx} {pins : List (Addr × Obj)} {σ : L2.St} {H : Hp} {s : Shared}
/-- behind a sort: the new list is tracked -/
theorem sorted_laid (I : Inv X pins σ H s) {h2 : Heap} {tk : Nat} {B : Addr} {xs : List V} {out : List Value} {c : Nat} {Q : VK} (hk : ∀ b o, s.heap.get? b = some o → h2.get? b = some o) (hB : s.heap.objs.size ≤ B)
    (ho : h2.get? B = some (seqObj "list" out.toArray c)) (rv : Vals xs out) (hl : xs.length ≤ sizeLine) (q : ∀ p, H p = none → Q (.ref p) (upd H p (.lst xs))) : EP X pins σ Q (.ref B) { s with heap := h2, toks := tk } :=
  ⟨.ref B, upd H B (.lst xs), I.laid (t' := tk) hk hB ⟨hl, out, c, rv, ho⟩, rfl, q B (I.hok.fresh hB)⟩
/-- sorted(d.keys(), key=str): some order -/
def rSortVK (P : Program) (w : World) : List V → List V → Hp → VK → Prop := fun vs zs H Q => ∃ p d es, vs = [.ref p] ∧ zs = [.ty "str"] ∧ H p = some (VW p d) ∧ H d = some (DN P w d es) ∧ KeysAt H es ∧ (∀ e ∈ es, SmallK e.1) ∧
  ∀ (es' : List DE) (q : Addr), es'.Perm es → H q = none → Q (.ref q) (upd H q (.lst (es'.map fun e => V.ref e.2.1)))
theorem cr_sortedVK (hc : X.calm = true) (hu : X.A.units + 64 < cLine) : CallRK X (.builtin "sorted") [Str.ofString "key"] (rSortVK X.prog X.w) := by
  intro pins s σ H vs zs us ws Q I r rz h
  obtain ⟨p, d, es, rfl, rfl, hp, hd, ks, sm, q⟩ := h
  obtain rfl := Vals.ref1 r
  obtain ⟨w1, rfl, e1⟩ := vals1 rz
  obtain rfl : w1 = Value.type "str" := e1
  obtain ⟨ds, ep, raw, hsz, hkeys⟩ := keys_of I.hok hd
  have hlen : es.length ≤ 1000000 := (dn_get I.hok hd ks).2.1
  have hz : es.length ≤ sizeLine := by rw [sizeLine_eq]; omega
  refine any_guards fun g => ?_
  refine sorted_keys (A := { X.A with guards := some g }) (I.ok.hd hc) (view_of I.hok hp) raw (by rw [hsz]; exact hz) (ksk_s1 _ _) fun h1 tk B hk hB hlist => ?_
  rw [hkeys] at hlist
  have neB : ∀ b o, s.heap.get? b = some o → b ≠ B := fun b o e z => by
    have := Heap.lt_size e
    rw [z] at this
    exact absurd (Nat.lt_of_lt_of_le this hB) (Nat.lt_irrefl _)
  refine list_sort_key_data (A := Around.in1 { X.A with guards := some g }) (s := { s with heap := h1, toks := tk }) (b := false) (bs := es) (R := fun v e => v = Value.ref e.2.1) (fun e : DE => PyData.str (textK g e.1 e.2.1)) hlist (fun_each es) ?_ ?_ hz (fun e _ => ?_) (ksk_l1 _ _) rfl (fun v e hv he h2 tk2 kp => ?_) fun out c h2 tk2 kp hD hol heach => ?_
  · intro x hx y hy
    obtain ⟨e, _, rfl⟩ := List.mem_map.mp hx
    obtain ⟨f, _, rfl⟩ := List.mem_map.mp hy
    simp [alike]
  · refine .inr fun x hx => ?_
    obtain ⟨e, _, rfl⟩ := List.mem_map.mp hx
    exact ⟨fun z => (nomatch z), fun xs z => (nomatch z)⟩
  · show X.A.units + 1 + 1 + 0 < cLine
    omega
  · subst hv
    obtain ⟨o, us, n, t1, t2, t3, t4⟩ := key_tuple I.hok (ks e he)
    refine call_str_pair (H := H) (g := g) (by show X.A.units + 1 + 1 + 8 < cLine; omega) rfl ⟨o, us, n, kp _ _ (neB _ _ t1) (hk _ _ t1), t2, t3, t4⟩ (sm e he) fun u tk3 => ?_
    exact ⟨h2, tk3, rfl, fun _ _ z => z, .str _ _⟩
  · have hperm := List.mergeSort_perm es (dataLe false fun e : DE => PyData.str (textK g e.1 e.2.1))
    have ho := each_fun heach
    refine sorted_laid I (fun b o e => kp b o (neB b o e) (hk b o e)) hB hD (by rw [ho]; exact vals_refsE _) (by rw [List.length_map, hperm.length_eq]; exact hz) fun q' hq => q _ q' hperm hq
/-- sorted(d.keys()), all keys pairs of ints: some order -/
def rSortVP (P : Program) (w : World) : List V → Hp → VK → Prop := fun vs H Q => ∃ p d es, vs = [.ref p] ∧ H p = some (VW p d) ∧ H d = some (DN P w d es) ∧ KeysAt H es ∧ (∀ e ∈ es, ∃ i, e.1.1 = some i) ∧
  ∀ (es' : List DE) (q : Addr), es'.Perm es → H q = none → Q (.ref q) (upd H q (.lst (es'.map fun e => V.ref e.2.1)))
theorem cr_sortedVP (hc : X.calm = true) (hu : X.A.units + 64 < cLine) : CallR X (.builtin "sorted") (rSortVP X.prog X.w) := by
  intro pins s σ H vs us Q I r h
  obtain ⟨p, d, es, rfl, hp, hd, ks, sm, q⟩ := h
  obtain rfl := Vals.ref1 r
  obtain ⟨ds, ep, raw, hsz, hkeys⟩ := keys_of I.hok hd
  have hlen : es.length ≤ 1000000 := (dn_get I.hok hd ks).2.1
  have hz : es.length ≤ sizeLine := by rw [sizeLine_eq]; omega
  refine sorted_keys (A := X.A) (kw := []) (I.ok.hd hc) (view_of I.hok hp) raw (by rw [hsz]; exact hz) (args_sorted1 _) fun h1 tk B hk hB hlist => ?_
  rw [hkeys] at hlist
  have neB : ∀ b o, s.heap.get? b = some o → b ≠ B := fun b o e z => by
    have := Heap.lt_size e
    rw [z] at this
    exact absurd (Nat.lt_of_lt_of_le this hB) (Nat.lt_irrefl _)
  let enc : DE → PyData := fun e => .tuple [.int (e.1.1.getD 0), .int e.1.2]
  have reads : ∀ e ∈ es, Reads h1 (.ref e.2.1) (enc e) [] := fun e he => by
    obtain ⟨o, us, n, t1, t2, t3, t4⟩ := key_tuple I.hok (ks e he)
    obtain ⟨i, hi⟩ := sm e he
    refine .tuple (hk _ _ t1) t2 t3 ?_
    unfold keyV at t4
    rw [hi] at t4
    rw [hi]
    cases t4 with
    | cons r1 t4 =>
      cases t4 with
      | cons r2 t4 =>
        cases t4
        obtain ⟨k1, e1⟩ := (show ∃ t, _ = Value.int i t from r1)
        obtain ⟨k2, e2⟩ := (show ∃ t, _ = Value.int e.1.2 t from r2)
        subst e1 e2
        exact .cons (.int _ _) (.cons (.int _ _) .nil)
  have er : EachIs (fun v e => ∃ as, Reads h1 v (enc e) as ∧ B ∉ as) (es.map fun e => Value.ref e.2.1) es := by
    have : ∀ l : List DE, (∀ e ∈ l, e ∈ es) → EachIs (fun v e => ∃ as, Reads h1 v (enc e) as ∧ B ∉ as) (l.map fun e => Value.ref e.2.1) l := by
      intro l
      induction l with
      | nil => intro _; exact .nil
      | cons e l ih => intro hm; exact .cons ⟨[], reads e (hm e List.mem_cons_self), by simp⟩ (ih fun f hf => hm f (List.mem_cons_of_mem _ hf))
    exact this es fun _ h => h
  refine list_sort_data (A := X.A.in1) (s := { s with heap := h1, toks := tk }) (enc := enc) (bs := es) (R := fun v e => v = Value.ref e.2.1) hlist (fun_each es) er ?_ ?_ hz (fun e _ => ?_) fun out hol heach => ?_
  · intro x hx y hy
    obtain ⟨e, _, rfl⟩ := List.mem_map.mp hx
    obtain ⟨f, _, rfl⟩ := List.mem_map.mp hy
    simp [enc, alike, alikeAll]
  · refine .inl fun x hx => ?_
    obtain ⟨e, _, rfl⟩ := List.mem_map.mp hx
    exact ⟨_, _, rfl⟩
  · show X.A.units + 1 + 1 + (enc e).depth < cLine
    have : (enc e).depth ≤ 1 := by simp [enc, PyData.depth, PyData.depthAll]
    omega
  · have hperm := List.mergeSort_perm es (dataLe false enc)
    have ho := each_fun heach
    obtain ⟨c, hD⟩ := PyProof.Rows.sortedHeap_at (vs := es.map fun e => Value.ref e.2.1) (out := out.toArray) hlist
    refine sorted_laid I (fun b o e => (PyProof.Rows.sortedHeap_old (neB b o e) (Heap.lt_size (hk b o e))).trans (hk b o e)) hB hD (by rw [ho]; exact vals_refsE _) (by rw [List.length_map, hperm.length_eq]; exact hz) fun q' hq => q _ q' hperm hq
/-- sorted(d.keys()), all keys ints -/
def rSortVI : List V → Hp → VK → Prop := fun vs H Q => ∃ (p d : Addr) (kvs : List (Key × V)) (ns : List Int), vs = [.ref p] ∧ H p = some (VW p d) ∧ H d = some (.dK kvs) ∧ kvs.map (·.1) = ns.map Sum.inl ∧
  ∀ (ns' : List Int) (q : Addr), ns'.Perm ns → ns'.Pairwise (· ≤ ·) → H q = none → Q (.ref q) (upd H q (.lst (ns'.map V.int)))
theorem cr_sortedVI (hc : X.calm = true) (hu : X.A.units + 64 < cLine) : CallR X (.builtin "sorted") rSortVI := by
  intro pins s σ H vs us Q I r h
  obtain ⟨p, d, kvs, ns, rfl, hp, hd, hks, q⟩ := h
  obtain rfl := Vals.ref1 r
  obtain ⟨hz, _, vs, kv, D⟩ := dk_of I.hok hd
  obtain ⟨ds, ep, raw, hsz, hent⟩ := D.raw
  have hl : ns.length = ds.size := by
    have a := congrArg List.length hks
    rw [List.length_map, List.length_map] at a
    rw [hsz, ← a]
    exact kv.length
  have hzn : ns.length ≤ sizeLine := by
    have a := congrArg List.length hks
    rw [List.length_map, List.length_map] at a
    omega
  have each : EachIs (fun v (n : Int) => ∃ t, v = Value.int n t) (ds.toList.map (·.key)) ns := by
    refine EachIs.of_zip (by rw [List.length_map, Array.length_toList, hl]) fun z hz => ?_
    obtain ⟨i, hi⟩ := List.mem_iff_getElem?.mp hz
    obtain ⟨e1, e2⟩ := List.getElem?_zip_eq_some.mp hi
    rw [List.getElem?_map] at e1
    have hin : i < ns.length := (List.getElem?_eq_some_iff.mp e2).1
    have hid : i < ds.size := by omega
    rw [Array.getElem?_toList, Array.getElem?_eq_getElem hid] at e1
    have e1 : ds[i].key = z.1 := Option.some.inj e1
    have hkv : i < vs.length := by omega
    have e3 : (vs.map (·.1))[i]? = some (Sum.inl z.2) := by
      rw [← kv.keys, hks, List.getElem?_map, e2]
      rfl
    rw [List.getElem?_map, List.getElem?_eq_getElem hkv] at e3
    have e3 : vs[i].1 = Sum.inl z.2 := Option.some.inj e3
    have hk := (hent i hid vs[i].1 vs[i].2 (List.getElem?_eq_getElem hkv)).1
    rw [e1, e3] at hk
    exact Value.isInt_shape (k := z.2) hk
  refine sorted_keys (A := X.A) (kw := []) (I.ok.hd hc) (view_of I.hok hp) raw (by rw [← hl]; exact hzn) (args_sorted1 _) fun h1 tk B hk hB hlist => ?_
  have neB : ∀ b o, s.heap.get? b = some o → b ≠ B := fun b o e z => by
    have := Heap.lt_size e
    rw [z] at this
    exact absurd (Nat.lt_of_lt_of_le this hB) (Nat.lt_irrefl _)
  refine list_sort_data (A := X.A.in1) (s := { s with heap := h1, toks := tk }) (enc := fun n : Int => PyData.int n) (bs := ns) hlist each (each.mono fun v n ⟨t, e⟩ => ⟨[], by rw [e]; exact .int _ _, by simp⟩) ?_ ?_ hzn (fun e _ => ?_) fun out hol heach => ?_
  · intro x hx y hy
    obtain ⟨e, _, rfl⟩ := List.mem_map.mp hx
    obtain ⟨f, _, rfl⟩ := List.mem_map.mp hy
    simp [alike]
  · refine .inr fun x hx => ?_
    obtain ⟨e, _, rfl⟩ := List.mem_map.mp hx
    exact ⟨fun z => (nomatch z), fun xs z => (nomatch z)⟩
  · show X.A.units + 1 + 1 + 0 < cLine
    omega
  · have el := dataLe_int (fun n : Int => n)
    rw [el] at heach
    have hperm := List.mergeSort_perm ns (fun a b : Int => decide (a ≤ b))
    have hpw : (ns.mergeSort fun a b : Int => decide (a ≤ b)).Pairwise (· ≤ ·) := by
      have := List.pairwise_mergeSort (le := fun a b : Int => decide (a ≤ b)) (fun a b c h1 h2 => by simp at *; omega) (fun a b => by simp; omega) ns
      exact this.imp fun h => of_decide_eq_true h
    obtain ⟨c, hD⟩ := PyProof.Rows.sortedHeap_at (vs := ds.toList.map (·.key)) (out := out.toArray) hlist
    have rv : ∀ {out : List Value} {l : List Int}, EachIs (fun v (n : Int) => ∃ t, v = Value.int n t) out l → Vals (l.map V.int) out := by
      intro out l h
      induction h with
      | nil => exact .nil
      | cons h t ih => exact .cons h ih
    refine sorted_laid I (fun b o e => (PyProof.Rows.sortedHeap_old (neB b o e) (Heap.lt_size (hk b o e))).trans (hk b o e)) hB hD (rv heach) (by rw [List.length_map, hperm.length_eq]; exact hzn) fun q' hq => q _ q' hperm hpw hq
end
end Flk

set_option Elab.async false
set_option linter.all false
set_option maxRecDepth 100000
set_option maxHeartbeats 4000000
/-! Rules of this proof's own, 4: the least of values (cost, colours). -/
namespace Flk
open PySem PySem.Spec PyProof.Rows L2 PySem.W

def ValD (u : Val) : PyData := .tuple [.int u.1, .tuple (u.2.map PyData.int)]
/-- v is the tuple (cost, colours) -/
def ValAt (H : Hp) (v : V) (u : Val) : Prop := ∃ t t2, v = V.ref t ∧ H t = some (.tup [.int u.1, .ref t2]) ∧ H t2 = some (.tup (u.2.map V.int))
theorem reads_ints {h : Heap} : ∀ {ns : List Int} {us : List Value}, Vals (ns.map V.int) us → ReadsAll h us (ns.map PyData.int) []
  | [], _, r => by cases r; exact .nil
  | n :: ns, _, r => by
    cases r with
    | cons r1 r2 =>
      obtain ⟨t, e⟩ := (show ∃ t, _ = Value.int n t from r1)
      subst e
      exact .cons (.int n t) (reads_ints r2)
theorem reads_tup {P : Program} {w : World} {H : Hp} {h : Heap} {t : Addr} {ns : List Int} (ok : HOk P w H h) (e : H t = some (.tup (ns.map V.int))) : Reads h (.ref t) (.tuple (ns.map PyData.int)) [] := by
  obtain ⟨_, its, r, o, h1, h2, n, h3⟩ := (show ObjOk P w H h t (.tup (ns.map V.int)) from ok t _ e)
  exact .tuple h1 h2 h3 (reads_ints r)
theorem reads_val {P : Program} {w : World} {H : Hp} {h : Heap} {v : V} {x : Value} {u : Val} (ok : HOk P w H h) (a : ValAt H v u) (r : RelV v x) : Reads h x (ValD u) [] := by
  obtain ⟨t, t2, rfl, e1, e2⟩ := a
  cases (show x = Value.ref t from r)
  obtain ⟨_, its, r, o, h1, h2, n, h3⟩ := (show ObjOk P w H h t (.tup [.int u.1, .ref t2]) from ok t _ e1)
  refine .tuple h1 h2 h3 ?_
  cases r with
  | cons r1 r =>
    cases r with
    | cons r2 r =>
      cases r
      obtain ⟨k, e⟩ := (show ∃ t, _ = Value.int u.1 t from r1)
      subst e
      cases (show _ = Value.ref t2 from r2)
      exact .cons (.int _ _) (.cons (reads_tup ok e2) .nil)
theorem alike_ints : ∀ xs ys : List Int, alikeAll (xs.map PyData.int) (ys.map PyData.int) = true
  | [], _ => by simp [alikeAll]
  | _ :: _, [] => by simp [alikeAll]
  | x :: xs, y :: ys => by
    rw [List.map_cons, List.map_cons, alikeAll, alike_ints xs ys]
    simp [alike]
theorem alike_val (a b : Val) : alike (ValD a) (ValD b) = true := by
  simp [ValD, alike, alikeAll, alike_ints]
theorem depth_ints : ∀ xs : List Int, PyData.depthAll (xs.map PyData.int) = 0
  | [] => rfl
  | x :: xs => by rw [List.map_cons, PyData.depthAll, depth_ints xs]; rfl
theorem depth_val (a : Val) : (ValD a).depth = 2 := by
  simp [ValD, PyData.depth, PyData.depthAll, depth_ints]
theorem lt_val (a b : Val) : dataLt (ValD a) (ValD b) = decide (vlt a b) := by
  unfold ValD
  rw [dataLt_pair (by simp [alike]) (by simp [alike, alike_ints]), dataLt_int]
  have e1 : PyData.eqv (.int a.1) (.int b.1) = decide (a.1 = b.1) := by
    simp only [PyData.eqv]
    exact beq_decide a.1 b.1
  have e2 : PyData.eqv (.tuple (a.2.map PyData.int)) (.tuple (b.2.map PyData.int)) = decide (a.2 = b.2) := by
    simp only [PyData.eqv]
    exact eqvAll_map a.2 b.2
  have e3 : dataLt (.tuple (a.2.map PyData.int)) (.tuple (b.2.map PyData.int)) = decide (a.2 < b.2) := by
    rw [dataLt_tuple]
    exact dataLt_ints a.2 b.2
  rw [e1, e2, e3]
  unfold vlt
  by_cases h : a.1 = b.1
  · by_cases h2 : a.2 = b.2
    · have : ¬ (b.2 < b.2) := List.lt_irrefl _
      simp [h, h2, this]
    · simp [h, h2]
  · simp [h]
section
variable {P : Program} {w : World} {A : Around} {E : Value → Shared → Prop} {s : Shared}
theorem min_two_vals {a b : Value} {u v : Val} {Q : Value → Shared → Prop} (hh : A.handled = none) (ha : Reads s.heap a (ValD u) []) (hb : Reads s.heap b (ValD v) []) (hu : A.units + 16 < cLine)
    (h : ∀ h' tk, (∀ c o, s.heap.get? c = some o → h'.get? c = some o) → Q (if vlt v u then b else a) { s with heap := h', toks := tk }) :
    wpAny (model P w) A (call (.builtin "min") [a, b]) Q E s := by
  let g : Heap := s.heap.push { cls := .type "tuple", data := .seq #[a, b] }
  have up : ∀ c o, s.heap.get? c = some o → g.get? c = some o := fun c o e => Heap.get?_push_of_some _ e
  have hT : g.IsTuple s.heap.objs.size #[a, b] := ⟨_, Heap.get?_push_size _ rfl, rfl, 0, rfl⟩
  have hr : ReadsAll g (#[a, b] : Array Value).toList [ValD u, ValD v] [] := .cons (PyProof.Rows.Reads.keeps up ha) (.cons (PyProof.Rows.Reads.keeps up hb) .nil)
  have al : AlikeAll [ValD u, ValD v] := ⟨fun x hx y hy => by
    have : ∀ x ∈ [ValD u, ValD v], ∃ z, x = ValD z := fun x hx => by
      rcases List.mem_cons.mp hx with e | hx
      · exact ⟨u, e⟩
      · exact ⟨v, List.mem_singleton.mp hx⟩
    obtain ⟨p, rfl⟩ := this x hx
    obtain ⟨q, rfl⟩ := this y hy
    exact alike_val p q, fun x hx => by
      rcases List.mem_cons.mp hx with e | hx
      · rw [e]; exact fun z => (nomatch z)
      · rw [List.mem_singleton.mp hx]; exact fun z => (nomatch z)⟩
  have dp : PyData.depthAll [ValD u, ValD v] ≤ 2 := by
    simp [PyData.depthAll, depth_val]
  refine call_function_tree F.kind_min F.plain_min F.entry_min (F.args_min2 _ _) ?_
  show wpAny _ A.in1 (Builtin.Builtins.bindParams "min" ["key", "default"] 0 ⟨[], []⟩ >>= _) _ _ s
  refine wpAny_bind (wpAny_of_eq (show Builtin.Builtins.bindParams "min" ["key", "default"] 0 ⟨[], []⟩ = pure [none, none] from rfl) ?_)
  show wpAny _ A.in1 (newTuple [a, b] >>= _) _ _ s
  refine wpAny_bind (wpAny_newObj_type ?_)
  refine wpAny_bind (wpAny_mono (iter_tupleW (A := A.in1) (s := { s with heap := g }) hh hT (Q := fun it s2 => it = .ref g.objs.size ∧ s2 = { s with heap := g.push { cls := .type "tuple_iterator", data := .fields #[.ref s.heap.objs.size, .int 0 0] } } ∧
      WalksS P w A.in1 g.objs.size [g.objs.size, s.heap.objs.size] [g.objs.size] (fun a b => b = a) 2 (fun i x => (#[a, b] : Array Value)[i]? = some x) (fun i s' => s'.heap.IsTupleIter g.objs.size s.heap.objs.size i ∧ s'.heap.IsTuple s.heap.objs.size #[a, b]) ∧
      (s2.heap.IsTupleIter g.objs.size s.heap.objs.size 0 ∧ s2.heap.IsTuple s.heap.objs.size #[a, b]) ∧ (∀ c ∈ [g.objs.size, s.heap.objs.size], c < s2.heap.objs.size) ∧ (∀ c o, g.get? c = some o → c ∉ [g.objs.size]) ∧ (∀ c o, g.get? c = some o → s2.heap.get? c = some o))
      fun s2 e W st hfp hw hk => ⟨rfl, e, W, st, hfp, hw, hk⟩) (fun it s2 h2 => ?_) fun _ _ e => e)
  obtain ⟨rfl, e2, W, hst, hfp, hw, hk⟩ := h2
  have hname : (toString "min" ++ toString ".loop" : String) = "min.loop" := by decide
  refine wpAny_bind (wpAny_newObj_type ?_)
  have hSf : s2.heap.objs.size ∉ [g.objs.size, s.heap.objs.size] := fun hm => Nat.lt_irrefl _ (hfp _ hm)
  rw [hname]
  refine wpAny_pure ⟨plainId_quiet F.plain_min_loop _, codeAny_min_loop_firstH W g hw (fun i j => dataLt ([ValD u, ValD v].getD i .none) ([ValD u, ValD v].getD j .none)) (cmpIn_lt (A := A.in1) (s := { s with heap := g }) hr al (by show A.units + 1 + _ < _; omega)) s2.heap.objs.size hSf (fresh_in hk) _ (by omega)
    (fun c o e => Heap.get?_push_of_some _ (hk c o e)) (W.frame 0 s2 _ s2.toks hst (Nat.le_refl _) fun c _ o e => Heap.get?_push_of_some _ e) (Heap.get?_push_size _ rfl) fun x s' hP hm => ?_⟩
  have hm2 := Moved.drop_new (tk := s2.toks) hm (Nat.le_refl _)
  obtain ⟨h', tk, rfl, hk'⟩ := moved_old (s := { s with heap := g }) e2 rfl hm2
  have hfin := h h' tk fun c o e => hk' c o (up c o e)
  have hbest : x = if vlt v u then b else a := by
    have hP' : (#[a, b] : Array Value)[argBest (fun i j => dataLt ([ValD u, ValD v].getD i .none) ([ValD u, ValD v].getD j .none)) 1]? = some x := hP
    have e4 : argBest (fun i j => dataLt ([ValD u, ValD v].getD i .none) ([ValD u, ValD v].getD j .none)) 1 = if dataLt (ValD v) (ValD u) = true then 1 else 0 := rfl
    rw [e4, lt_val] at hP'
    by_cases q : vlt v u
    · rw [decide_eq_true q, if_pos rfl] at hP'
      rw [if_pos q]
      exact (Option.some.inj hP').symm
    · rw [decide_eq_false q, if_neg Bool.false_ne_true] at hP'
      rw [if_neg q]
      exact (Option.some.inj hP').symm
  rw [hbest]
  exact hfin
end
section
variable {X : Cx}
/-- min(one, other) -/
def rMin2V : List V → Hp → VK → Prop := fun xs H Q => ∃ x y u v, xs = [x, y] ∧ ValAt H x u ∧ ValAt H y v ∧ Q (if vlt v u then y else x) H
theorem cr_min2V (hc : X.calm = true) (hu : X.A.units + 64 < cLine) : CallR X (.builtin "min") rMin2V := by
  intro pins s σ H xs us Q I r h
  obtain ⟨x, y, u, v, rfl, hx, hy, q⟩ := h
  obtain ⟨a, b, rfl, ra, rb⟩ := vals2 r
  refine min_two_vals (I.ok.hd hc) (reads_val I.hok hx ra) (reads_val I.hok hy rb) (by omega) fun h' tk k => ⟨_, H, I.kept k, ?_, q⟩
  by_cases z : vlt v u
  · rw [if_pos z, if_pos z]; exact rb
  · rw [if_neg z, if_neg z]; exact ra
theorem minD_best : ∀ (us : List Val) (u : Val), ∃ m, bestOf (some u) us = some m ∧ minD (ValD u) (us.map ValD) = ValD m
  | [], u => ⟨u, rfl, rfl⟩
  | v :: us, u => by
    obtain ⟨m, h1, h2⟩ := minD_best us (vmin u v)
    refine ⟨m, h1, ?_⟩
    rw [← h2]
    show (us.map ValD).foldl (fun a y => if dataLt y a then y else a) (if dataLt (ValD v) (ValD u) then ValD v else ValD u) = minD (ValD (vmin u v)) (us.map ValD)
    have : (if dataLt (ValD v) (ValD u) then ValD v else ValD u) = ValD (vmin u v) := by
      rw [lt_val]
      unfold vmin
      by_cases z : vlt v u
      · rw [decide_eq_true z, if_pos rfl, if_pos z]
      · rw [decide_eq_false z, if_neg Bool.false_ne_true, if_neg z]
    rw [this]
    rfl
theorem ValD_inj {a b : Val} (h : ValD a = ValD b) : a = b := by
  unfold ValD at h
  injection h with h
  injection h with h1 h2
  injection h1 with h1
  injection h2 with h2 _
  injection h2 with h2
  refine Prod.ext h1 ?_
  have : ∀ xs ys : List Int, xs.map PyData.int = ys.map PyData.int → xs = ys := by
    intro xs
    induction xs with
    | nil => intro ys e; cases ys with
      | nil => rfl
      | cons y ys => cases e
    | cons x xs ih => intro ys e; cases ys with
      | nil => cases e
      | cons y ys =>
        rw [List.map_cons, List.map_cons] at e
        injection e with e1 e2
        injection e1 with e1
        rw [e1, ih ys e2]
  exact this _ _ h2
/-- min(list of values) -/
def rMinV (K : PySem.W.Frag) : List V → Hp → VK → Prop := fun xs H Q => ∃ p vs us, xs = [V.ref p] ∧ SqL K H p vs ∧ Paired (ValAt H) vs us ∧ us ≠ [] ∧ ∀ v u, ValAt H v u → bestOf none us = some u → Q v H
theorem cr_minV (hc : X.calm = true) (hu : X.A.units + 64 < cLine) : CallR X (.builtin "min") (rMinV X.K) := by
  intro pins s σ H xs ws Q I r h
  obtain ⟨p, vs, us, rfl, hp, hv, hne, q⟩ := h
  obtain rfl := Vals.ref1 r
  obtain ⟨its, rv, pl, hz⟩ := I.list hp
  have hr : ReadsAll s.heap its.toArray.toList (us.map ValD) [] := by
    have : ∀ {vs : List V} {us : List Val} {its : List Value}, Paired (ValAt H) vs us → Vals vs its → ReadsAll s.heap its (us.map ValD) [] := by
      intro vs us its h
      induction h generalizing its with
      | nil => intro r; cases r; exact .nil
      | cons a t ih =>
        intro r
        cases r with
        | cons r1 r2 => exact .cons (reads_val I.hok a r1) (ih r2)
    simpa using this hv rv
  cases us with
  | nil => exact absurd rfl hne
  | cons u us =>
    obtain ⟨m, hb, hm⟩ := minD_best us u
    have dp : ∀ l : List Val, PyData.depthAll (l.map ValD) ≤ 2 := by
      intro l
      induction l with
      | nil => exact Nat.zero_le _
      | cons a l ih => rw [List.map_cons, PyData.depthAll, depth_val]; omega
    have d0 := dp (u :: us)
    refine min_list_data (x := ValD u) (xs := us.map ValD) (I.ok.hd hc) pl.isList hr ⟨fun x hx y hy => ?_, fun x hx => ?_⟩ (by rw [List.map_cons] at d0; omega) fun i v h' tk bs hi hrd k => ?_
    · obtain ⟨a, _, rfl⟩ := List.mem_map.mp (show x ∈ (u :: us).map ValD from hx)
      obtain ⟨b, _, rfl⟩ := List.mem_map.mp (show y ∈ (u :: us).map ValD from hy)
      exact alike_val a b
    · obtain ⟨a, _, rfl⟩ := List.mem_map.mp (show x ∈ (u :: us).map ValD from hx)
      exact fun z => (nomatch z)
    · rw [hm] at hrd
      have hi' : its[i]? = some v := by simpa using hi
      have hlen := rv.length
      have hil : i < its.length := (List.getElem?_eq_some_iff.mp hi').1
      have hvi : vs[i]? = some vs[i] := List.getElem?_eq_getElem (by omega)
      obtain ⟨v2, hv2, r2⟩ := rv.get hvi
      rw [hi'] at hv2
      cases hv2
      have hpair : ∀ {vs : List V} {us : List Val}, Paired (ValAt H) vs us → ∀ {i : Nat} {x : V}, vs[i]? = some x → ∃ y, ValAt H x y := by
        intro vs us h
        induction h with
        | nil => intro i x e; simp at e
        | cons a t ih =>
          intro i x e
          cases i with
          | zero => simp at e; subst e; exact ⟨_, a⟩
          | succ i => exact ih (by simpa using e)
      obtain ⟨y, hy⟩ := hpair hv hvi
      have hy' := PyProof.Rows.Reads.keeps k (reads_val I.hok hy r2)
      have e := ValD_inj (hy'.unique _ _ hrd).1
      subst e
      exact ⟨vs[i], H, I.kept k, r2, q _ _ hy hb⟩
end
end Flk

set_option Elab.async false
set_option linter.all false
set_option maxRecDepth 100000
set_option maxHeartbeats 4000000
/-! Rules of this proof's own, 5: set(list of ints). -/
namespace Flk
open PySem PySem.Spec PyProof.Rows L2 PySem.W
section
variable {P : Program} {w : World} {A : Around} {E : Value → Shared → Prop} {s : Shared}
/-- a built-in class called whose __init__'s arguments are looked at in the state -/
theorem call_checked {T newId initId : String} {Bi : Builtin} {args : List Value} {Q Q1 : Value → Shared → Prop} (ft : TypeCalled T newId initId) (hct : checkTypeCall T ⟨args, []⟩ = pure ()) (entryI : entryFor table initId = some Bi)
    (hnew : codeAny (model P w) A.in1 (.call (.builtin newId) ⟨.type T :: args, []⟩) (wants Q1 E) s)
    (hnext : ∀ obj s1, Q1 obj s1 → s1.TypeIs obj T ∧ (∀ (A' : Around) (R : Unit → Shared → Prop) (E' : Value → Shared → Prop), R () s1 → wpAny (model P w) A' (checkBuiltinCall initId ⟨obj :: args, []⟩) R E' s1) ∧
      wpAny (model P w) A.in1.in1 (Bi ⟨obj :: args, []⟩)
        (fun fin s' => match fin with | .done f => wants (fun r s2 => r = .none ∧ Q obj s2) E (.ok f) s' | .again c' => c'.quiet = true ∧ codeAny (model P w) A.in1 c' (wants (fun r s2 => r = .none ∧ Q obj s2) E) s')
        (fun e s' => wants (fun r s2 => r = .none ∧ Q obj s2) E (.error e) s') s1) : wpAny (model P w) A (call (.type T) args) Q E s := by
  obtain ⟨c0, tl0, hm0⟩ := ft.mro
  have hmk := ft.made
  have hsb := ft.sub
  have hnt := ft.notType
  have hcc := ft.canCreate
  refine wpAny_call (codeAny_of_tree ?_)
  show wpAny _ _ (callAny (.type T) _) _ _ _
  refine wpAny_pure ⟨Code.quiet_builtin _ (by decide +kernel), codeAny_builtin F.entry_type_call ?_⟩
  rw [Around.under_plain (weight_type_call_type T args []) rfl]
  repeat (any_goals (first | assumption | wp_step))
  refine codeAny_mono hnew fun r1 s1 h1 => ?_
  rcases r1 with e | fl
  · exact h1
  · cases fl with
    | ret obj =>
      obtain ⟨hT, hck, hbody⟩ := hnext _ _ h1
      have hil := ft.init.lookup
      have hib := ft.init.bind obj
      repeat (any_goals (first | assumption | wp_step))
      refine codeAny_mono (codeAny_call_builtin ft.init.plain entryI (hck _ _ _ hbody)) fun r2 s2 h2 => ?_
      rcases r2 with e | fl2
      · exact h2
      · cases fl2 with
        | ret r =>
          obtain ⟨rfl, hq⟩ := h2
          repeat (any_goals (first | assumption | wp_step))
        | _ => exact h2.elim
    | _ => exact h1.elim

/-- set(l), l a list of ints -/
theorem call_set_ints {l : Addr} {items : Array Value} {ns : List Int} {Q : Value → Shared → Prop} (hh : A.handled = none) (hl : s.heap.IsList l items) (hi : IntsAre items.toList ns) (hb : ns.length + 1 < scanBound)
    (h : ∀ (h' : Heap) (tk c : Nat), SetR w h' s.heap.objs.size (fun j => decide (j ∈ ns)) c → c ≤ ns.length → (∀ b o, s.heap.get? b = some o → h'.get? b = some o) → Q (.ref s.heap.objs.size) { s with heap := h', toks := tk }) :
    wpAny (model P w) A (call (.type "set") [.ref l]) Q E s := by
  have hsz : items.size = ns.length := by rw [← IntsAre.length hi, Array.length_toList]
  let so : Obj := { cls := .type "set", dict := none, data := .set #[] 0 (.fresh 0 0 (!w.params.followText "set-order")) }
  let S := s.heap.objs.size
  let g : Heap := s.heap.push so
  have up : ∀ b o, s.heap.get? b = some o → g.get? b = some o := fun b o e => Heap.get?_push_of_some _ e
  have atS : g.get? S = some so := Heap.get?_push_size _ rfl
  have hlS : l < S := by obtain ⟨o, e, _⟩ := hl; exact Heap.lt_size e
  have gsz : g.objs.size = S + 1 := Heap.size_push ..
  refine call_checked (Q1 := fun obj s1 => obj = .ref S ∧ s1 = { s with heap := g }) F.called_set (F.typeCall_set_1 _) F.entry_set_init (code_set_led1 _ ⟨rfl, rfl⟩) fun obj s1 h1 => ?_
  obtain ⟨rfl, rfl⟩ := h1
  have hT : Shared.TypeIs { s with heap := g } (.ref S) "set" := ⟨_, atS, rfl⟩
  refine ⟨hT, fun A' R E' hr => check_set_init_1 hT hr, ?_⟩
  obtain ⟨ol, hol, hcl, nl, hdl⟩ := hl
  have hl1 : g.IsList l items := ⟨ol, up _ _ hol, hcl, nl, hdl⟩
  obtain ⟨oc, odi, oda, osl⟩ := ol
  simp only at hcl hdl
  subst hcl; subst hdl
  have hol1 : g.get? l = some { cls := .type "list", dict := odi, data := .seq items nl, slots := osl } := up _ _ hol
  have q1 := F.sub_list_set
  have q2 := F.sub_list_frozenset
  have q3 : (Value.type "list" == Value.type "dict") = false := by decide
  unfold Builtin.«set.__init__» noKeywords Builtin.Frozenset.updateFrom
  generalize hPI : pyIter = PI
  wp_walk
  subst hPI
  refine wpAny_pyIter_list hl1 ?_
  refine wpAny_bind (wpAny_runValue ?_)
  have neI : l ≠ g.objs.size := by rw [gsz]; exact Nat.ne_of_lt (Nat.lt_succ_of_lt hlS)
  have hSf : S ∉ [g.objs.size, l] := by
    rw [gsz]
    simp only [List.mem_cons, List.not_mem_nil, or_false, not_or]
    exact ⟨Nat.ne_of_lt (Nat.lt_succ_self _), Nat.ne_of_gt hlS⟩
  have hval : ∀ (i : Nat) (v : Value), items[i]? = some v → ∃ k t, ns[i]? = some k ∧ v = .int k t := fun i v hv => by
    have hlt : i < ns.length := by rw [← hsz]; exact (Array.getElem?_eq_some_iff.mp hv).1
    obtain ⟨t, e⟩ := PyProof.Rows.IntsAre.int_at hi i v (by rw [Array.getElem?_toList]; exact hv)
    refine ⟨ns[i], t, List.getElem?_eq_getElem hlt, ?_⟩
    rw [e, List.getD_eq_getElem?_getD, List.getElem?_eq_getElem hlt]
    rfl
  refine set_update_ints ((Walks.list (by simp [hh]) _ l neI items).toS) S hSf ns hsz hb hval (items.size - 0) 0 _ (by omega) (Nat.zero_le _) ⟨⟨_, Heap.get?_push_size _ rfl, rfl, rfl⟩, hl1.push _⟩ ⟨0, Nat.le_refl 0, setR_new_at (Heap.get?_push_of_some _ atS)⟩ fun s2 c hm hc hS => ?_
  obtain ⟨h2, g2, d2, t2, o2⟩ := s2
  obtain rfl : g2 = s.gens := hm.gens
  obtain rfl : d2 = s.drawn := hm.drawn
  obtain rfl : o2 = s.os := hm.os
  show wpAny _ _ _ _ _ _
  refine wpAny_pure ?_
  show wpAny _ _ (ret Value.none) _ _ _
  refine wpAny_pure ⟨rfl, h h2 t2 c hS (by omega) fun b o e => hm.heap b o (fun hmem => ?_) (Heap.get?_push_of_some _ (up b o e))⟩
  have hlt := Heap.lt_size e
  rw [gsz] at hmem
  simp only [List.mem_cons, List.not_mem_nil, or_false] at hmem
  rcases hmem with hmem | hmem
  · rw [hmem] at hlt; exact absurd hlt (Nat.lt_irrefl _)
  · rw [hmem] at hlt; exact absurd hlt (Nat.not_lt.mpr (Nat.le_succ _))
end
section
variable {X : Cx}
/-- set(xs), xs a list of ints -/
def rSetOfI (K : PySem.W.Frag) (w : World) : List V → Hp → VK → Prop := fun xs H Q => ∃ (a : Addr) (ns : List Int), xs = [V.ref a] ∧ SqL K H a (ns.map V.int) ∧ ns.length ≤ 1000 ∧
  ∀ p c, H p = none → c ≤ ns.length → Q (.ref p) (upd H p (SetO w p (fun j => decide (j ∈ ns)) c))
theorem cr_setOfI (hc : X.calm = true) : CallR X (.type "set") (rSetOfI X.K X.w) := by
  intro pins s σ H xs us Q I r h
  obtain ⟨a, ns, rfl, ha, hlen, q⟩ := h
  obtain rfl := Vals.ref1 r
  obtain ⟨its, rv, pl, hz⟩ := I.list ha
  have hi : IntsAre its.toArray.toList ns := by simpa using rv.ints
  refine call_set_ints (I.ok.hd hc) pl.isList hi (by unfold scanBound; omega) fun h' tk c R hcn k => ?_
  exact ⟨.ref s.heap.objs.size, _, I.laid (a := s.heap.objs.size) (o := SetO X.w s.heap.objs.size (fun j => decide (j ∈ ns)) c) (t' := tk) k (Nat.le_refl _) (setO_new R), rfl, q _ c (I.hok.fresh (Nat.le_refl _)) hcn⟩
end
end Flk

/-! The plain law, part E: the loops' claims about the tables. -/
namespace Flk
def stpR (T : Tb) (b last : Nat) (first : Option Int) (cl : Nat → Nat → Bool) (p : Nat) (k : KK) : List Stp := if p < last then T.stepsC b last first cl p k else []
theorem steps_up {T : Tb} {b last : Nat} {first : Option Int} {p : Nat} {k : KK} {s : Stp} (h : s ∈ T.steps b last first p k) : p < s.there := by
  unfold Tb.steps at h
  obtain ⟨c, _, h⟩ := List.mem_flatMap.mp h
  unfold Tb.stepsO at h
  split at h
  · rcases List.mem_append.mp h with h | h
    · unfold Tb.steps1 at h
      split at h
      · rw [List.mem_singleton.mp h]; exact Nat.lt_succ_self _
      · cases h
    · obtain ⟨L, hL, h⟩ := List.mem_flatMap.mp h
      unfold Tb.stepsL at h
      split at h
      · rw [List.mem_singleton.mp h]
        have := mem_lens.mp hL
        show p < p + L - 1
        omega
      · cases h
  · cases h
theorem stpR_mem {T : Tb} {b last : Nat} {first : Option Int} {cl : Nat → Nat → Bool} {p : Nat} {k : KK} {s : Stp} : s ∈ stpR T b last first cl p k ↔ p < last ∧ s ∈ T.steps b last first p k ∧ cl p s.there = true := by
  unfold stpR Tb.stepsC
  split
  · rw [List.mem_filter]
    exact ⟨fun h => ⟨‹_›, h⟩, fun h => h.2⟩
  · exact ⟨fun h => (nomatch h), fun h => absurd h.1 ‹_›⟩
theorem stepsC_mem {T : Tb} {b last : Nat} {first : Option Int} {cl : Nat → Nat → Bool} {p : Nat} {k : KK} {s : Stp} : s ∈ T.stepsC b last first cl p k ↔ s ∈ T.steps b last first p k ∧ cl p s.there = true := by
  unfold Tb.stepsC
  rw [List.mem_filter]
theorem pth_R {T : Tb} {b last : Nat} {first : Option Int} {cl : Nat → Nat → Bool} {start : KK → Val → Prop} {p : Nat} {k : KK} {v : Val} (h : Pth start (T.stepsC b last first cl) p k v) : p ≤ last → Pth start (stpR T b last first cl) p k v := by
  induction h with
  | start h => exact fun _ => .start h
  | step h hm ih =>
    intro hl
    have := steps_up (stepsC_mem.mp hm).1
    exact .step (ih (by omega)) (stpR_mem.mpr ⟨by omega, stepsC_mem.mp hm⟩)
theorem pth_C {T : Tb} {b last : Nat} {first : Option Int} {cl : Nat → Nat → Bool} {start : KK → Val → Prop} {p : Nat} {k : KK} {v : Val} (h : Pth start (stpR T b last first cl) p k v) : Pth start (T.stepsC b last first cl) p k v :=
  path_mono (fun _ _ _ hs => stepsC_mem.mpr (stpR_mem.mp hs).2) h
theorem pth_0 {T : Tb} {b last : Nat} {first : Option Int} {start : KK → Val → Prop} {p : Nat} {k : KK} {v : Val} {cl : Nat → Nat → Bool} (h : Pth start (T.stepsC b last first cl) p k v) : Pth start (T.steps b last first) p k v :=
  path_mono (fun _ _ _ hs => (stepsC_mem.mp hs).1) h
theorem stepsC_true {T : Tb} {b last : Nat} {first : Option Int} : T.stepsC b last first (fun _ _ => true) = T.steps b last first := by
  funext p k
  unfold Tb.stepsC
  exact List.filter_eq_self.mpr fun _ _ => rfl
theorem pth_zero {start : KK → Val → Prop} {stp : Nat → KK → List Stp} (hs : ∀ p k s, s ∈ stp p k → p < s.there) {p : Nat} {k : KK} {v : Val} (h : Pth start stp p k v) : p = 0 → start k v := by
  cases h with
  | start h => exact fun _ => h
  | step h hm => intro e; have := hs _ _ _ hm; omega
theorem vmin_self (v : Val) : vmin v v = v := by
  rcases vmin_cases v v with h | h <;> exact h
/-- what has fired: all below i, at i the keys ks -/
def FA (stp : Nat → KK → List Stp) (i : Nat) (ks : List KK) (p : Nat) (k : KK) (s : Stp) : Prop := s ∈ stp p k ∧ (p < i ∨ (p = i ∧ k ∈ ks))
def FB (stp : Nat → KK → List Stp) (i : Nat) (ks : List KK) (key : KK) (ss : List Stp) (p : Nat) (k : KK) (s : Stp) : Prop := FA stp i ks p k s ∨ (p = i ∧ k = key ∧ s ∈ ss)
section
variable {start : KK → Val → Prop} {stp : Nat → KK → List Stp} {begun : KK → Val → Prop} {R : Tabs} {i : Nat} {ks : List KK} {key : KK} {ss : List Stp} {s : Stp} {v : Val}
theorem ti_in (h : TI start stp (FA stp i ks) begun R) : TI start stp (FB stp i ks key []) begun R := h.mono (fun p k s z => by
  rcases z with z | ⟨_, _, z⟩
  · exact z
  · cases z) fun _ _ z => z
theorem ti_put (h : TI start stp (FB stp i ks key ss) begun R) (hv : R i key = some v) (hs : s ∈ stp i key) (hlt : i < s.there) : TI start stp (FB stp i ks key (ss ++ [s])) begun (putR R s.there s.key (Val.plus v s)) := by
  refine (h.put hv hs hlt fun q j t f => ?_).mono (fun p k t z => ?_) fun _ _ z => z
  · rcases f with ⟨_, f | f⟩ | f
    · omega
    · omega
    · omega
  · rcases z with z | ⟨z1, z2, z3⟩
    · exact .inl (.inl z)
    · rcases List.mem_append.mp z3 with z3 | z3
      · exact .inl (.inr ⟨z1, z2, z3⟩)
      · exact .inr ⟨z1, z2, List.mem_singleton.mp z3⟩
theorem ti_out (h : TI start stp (FB stp i ks key (stp i key)) begun R) : TI start stp (FA stp i (ks ++ [key])) begun R := h.mono (fun p k t z => by
  obtain ⟨z1, z | ⟨z2, z3⟩⟩ := z
  · exact .inl ⟨z1, .inl z⟩
  · rcases List.mem_append.mp z3 with z3 | z3
    · exact .inl ⟨z1, .inr ⟨z2, z3⟩⟩
    · have e := List.mem_singleton.mp z3
      exact .inr ⟨z2, e, by rw [z2, e] at z1; exact z1⟩) fun _ _ z => z
theorem ti_next (h : TI start stp (FA stp i ks) begun R) (hk : ∀ k v, R i k = some v → k ∈ ks) : TI start stp (FA stp (i + 1) []) begun R := h.fire fun p k t z => by
  obtain ⟨z1, z | ⟨_, z⟩⟩ := z
  · by_cases e : p = i
    · subst e
      cases q : R p k with
      | none => exact .inr rfl
      | some v => exact .inl ⟨z1, .inr ⟨rfl, hk _ _ q⟩⟩
    · exact .inl ⟨z1, .inl (by omega)⟩
  · cases z
end
theorem len_path {T : Tb} {b last : Nat} {first : Option Int} {S : Int → Prop} {cl : Nat → Nat → Bool} {p : Nat} {k : KK} {v : Val} (h : Pth (startOf T b S) (stpR T b last first cl) p k v) : v.2.length = p + 1 := by
  obtain ⟨x, D, g, _⟩ := path_geo (pth_0 (pth_C h))
  rw [g.cols]
  simp
/-- at the end the tables hold the least of each key -/
theorem ti_end {T : Tb} {b last : Nat} {first : Option Int} {S : Int → Prop} {cl : Nat → Nat → Bool} {R : Tabs} (h : TI (startOf T b S) (stpR T b last first cl) (FA (stpR T b last first cl) last []) (startOf T b S) R) :
    (∀ k v, R last k = some v → Pth (startOf T b S) (T.stepsC b last first cl) last k v) ∧ (∀ k v, Pth (startOf T b S) (T.stepsC b last first cl) last k v → ∃ v', R last k = some v' ∧ vle v' v) := by
  refine ⟨fun k v e => pth_C (h.sound _ _ _ e), fun k v p => ?_⟩
  have := h.complete (last := last) (fun k v z => z) (fun p k s hp hs => ⟨hs, .inl hp⟩) (fun p k s hs => ?_) (fun k v ⟨c, _, _, _, e⟩ => by rw [e]; rfl) (fun p k s hs => ?_) last k v (pth_R p (Nat.le_refl _))
  · exact this.2.2
  · obtain ⟨h1, h2, _⟩ := stpR_mem.mp hs
    have := steps_lt h2 h1
    exact ⟨this.1, this.2.1⟩
  · obtain ⟨h1, h2, _⟩ := stpR_mem.mp hs
    exact (steps_lt h2 h1).2.2
theorem best_of {S : Val → Prop} {us : List Val} (h1 : ∀ u ∈ us, S u) (h2 : ∀ v, S v → ∃ u ∈ us, vle u v) : IsBest S (bestOf none us) := by
  have := bestOf_best us
  cases e : bestOf none us with
  | none =>
    rw [e] at this
    intro v hv
    obtain ⟨u, hu, _⟩ := h2 v hv
    exact this u hu
  | some u =>
    rw [e] at this
    refine ⟨h1 u this.1, fun v hv => ?_⟩
    obtain ⟨x, hx, l⟩ := h2 v hv
    exact vle_trans (this.2 x hx) l
end Flk

set_option Elab.async false
set_option linter.all false
set_option maxRecDepth 100000
set_option maxHeartbeats 4000000
/-! The walk, 0: the text by places, the names of each def, what the walk asks of the written part. -/
namespace Flk
open PySem PySem.Spec PyProof.Rows L2
def top (i : Nat) : Stmt := PySem.Challenge.pw_flankturns_k26_whole_cheapest_paint.main.body.getD i (.Pass ⟨0, 0, 0, 0⟩)
abbrev sIsIn : Stmt := top 7
abbrev sNeedLine : Stmt := top 12
abbrev sIsCells : Stmt := top 13
abbrev sHeldIn : Stmt := top 14
abbrev sNeedCol : Stmt := top 17
abbrev sNoPrice : Stmt := inClass (top 19) 0
abbrev sMorePrice : Stmt := inClass (top 19) 1
abbrev sBegin : Stmt := inClass (top 19) 2
abbrev sExtend : Stmt := inClass (top 19) 3
abbrev sJoin : Stmt := inClass (top 19) 4
abbrev sClose : Stmt := inClass (top 19) 5
abbrev sInit : Stmt := inClass (top 20) 0
abbrev sSuits : Stmt := inClass (top 20) 1
abbrev sStill : Stmt := inClass (top 20) 2
abbrev sPut : Stmt := inClass (top 20) 3
abbrev sStretch : Stmt := inClass (top 20) 4
abbrev sFurther : Stmt := inClass (top 20) 5
abbrev sRow : Stmt := inClass (top 20) 6
abbrev sJoined : Stmt := inClass (top 20) 7
abbrev sAround : Stmt := inClass (top 20) 8
abbrev sRing : Stmt := inClass (top 20) 9
abbrev sValue : Stmt := inClass (top 20) 10
abbrev sFrame : Stmt := top 22
abbrev sIsWish : Stmt := top 25
abbrev sNeedWish : Stmt := top 26
abbrev sNeedPaint : Stmt := top 27
abbrev sCosts : Stmt := top 28
abbrev sGoals : Stmt := top 29
abbrev sCheapest : Stmt := top 30
abbrev sPaint : Stmt := top 31
abbrev sFewest : Stmt := top 32
abbrev sPainted : Stmt := top 33
abbrev sTaken : Stmt := top 35
abbrev sPick : Stmt := top 36
abbrev sSmall : Stmt := top 37
abbrev sWish : Stmt := top 38
abbrev sRepaints : Stmt := top 39
abbrev sFits : Stmt := top 40
abbrev sHeld : Stmt := top 41
abbrev sReady : Stmt := top 42
abbrev sStep : Stmt := top 43
abbrev sRun : Stmt := top 44
abbrev sRest : Stmt := top 45
abbrev sAlike : Stmt := top 46
abbrev sLaw : Stmt := top 47
/-- what the walk asks of the written part -/
structure Txt (K : PySem.W.Frag) (mg : Str → Option Value) (CC CT : Addr) : Prop where
  clC : Cls K CC
  clT : Cls K CT
  nMany : NoAttr K CT "many"
  nRing : NoAttr K CT "is_ring"
  nHeld : NoAttr K CT "held"
  nCosts : NoAttr K CT "costs"
  nGoals : NoAttr K CT "goals"
  nLongest : NoAttr K CT "longest"
  nSums : NoAttr K CT "sums"
  nLast : NoAttr K CT "last"
  zInst : mg "isinstance" = none
  zInt : mg "int" = none
  zBool : mg "bool" = none
  zTuple : mg "tuple" = none
  zLen : mg "len" = none
  zEnum : mg "enumerate" = none
  zList : mg "list" = none
  zSorted : mg "sorted" = none
  zSet : mg "set" = none
  zRange : mg "range" = none
  zMin : mg "min" = none
  zStr : mg "str" = none
  zZip : mg "zip" = none
  zDict : mg "dict" = none
  zSum : mg "sum" = none
  cCells : ∃ t, mg "MOST_CELLS" = some (.int 40 t)
  cColour : ∃ t, mg "MOST_COLOUR" = some (.int 9 t)
  cRing : ∃ t, mg "LEAST_RING" = some (.int 3 t)
  cColours : ∃ t, mg "MOST_COLOURS" = some (.int 10 t)
  cPrice : ∃ t, mg "MOST_PRICE" = some (.int 1000 t)
/-- a def of the module, with its promise, as its callers use it -/
def GFn (P : Program) (w : World) (K : PySem.W.Frag) (mg : Str → Option Value) (base : Heap) (k : Nat) (x : Str) (ps : List Str) (sp : Sp) : Prop :=
  ∃ (f : Addr) (fd : FuncData), FnOk P w K mg base CX0 k f fd ps sp ∧ mg x = some (.ref f) ∧ PySem.W.keepIn K (.ref f) = true ∧ Binds K fd ps []
/-- a method of the class at C -/
def MFn (P : Program) (w : World) (K : PySem.W.Frag) (mg : Str → Option Value) (base : Heap) (C : Addr) (k : Nat) (x : Str) (ps : List Str) (sp : Sp) : Prop :=
  ∃ (f : Addr) (fd : FuncData), FnOk P w K mg base CX0 k f fd ps sp ∧ Meth K C x f ∧ Binds K fd ps []
end Flk

set_option Elab.async false
set_option linter.all false
set_option maxRecDepth 100000
set_option maxHeartbeats 4000000
/-! The walk, 1: the small defs. -/
namespace Flk
open PySem PySem.Spec PyProof.Rows L2
section
variable {P : Program} {w : World} {K : PySem.W.Frag} {mg : Str → Option Value} {base : Heap} {CC CT : Addr}
/-! ### is_in -/
def spIsIn : Sp := fun vs H Q _ => ∃ i l m : Int, vs = [.int i, .int l, .int m] ∧ Q (.bl (decide (l ≤ i ∧ i ≤ m))) H
theorem scIsIn : FnScope ["value", "least", "most"] ["value", "least", "most"] (defScope sIsIn) := ⟨rfl, rfl, rfl, by decide +kernel, rfl, by decide +kernel, by decide +kernel⟩
theorem ok_is_in {f : Addr} {fd : FuncData} (F : Fun K "is_in" "is_in" sIsIn f fd) (T : Txt K mg CC CT) : FnOk P w K mg base CX0 1 f fd ["value", "least", "most"] spIsIn := by
  refine F.ok scIsIn (fun vs H Q E h => ?_) (fun cdv A outer s H vs Q E hr h => ?_)
  · obtain ⟨i, l, m, rfl, _⟩ := h
    rfl
  · obtain ⟨i, l, m, rfl, k⟩ := h
    refine ⟨_, pss_one (ps_ret (pe_and (pe_callB call_isi (by rfl) T.zInst (by decide +kernel) (pa_cons (pv 0) (pa_cons (pe_bltn (v := .ty "int") (by rfl) T.zInt (by decide +kernel) rfl) pa_nil)))
      (pe_and (pe_not (pe_callB call_isi (by rfl) T.zInst (by decide +kernel) (pa_cons (pv 0) (pa_cons (pe_bltn (v := .ty "bool") (by rfl) T.zBool (by decide +kernel) rfl) pa_nil))))
      (pe_one (pe_chain op_le op_le (pv 1) (pv 0) (pv 2)))))), ?_⟩
    refine ⟨_, rfl, _, _, _, _, true, rfl, .ty _, .base (.int i), kit_ty (by decide +kernel), true, rfl, iteT ?_⟩
    refine ⟨_, rfl, _, _, _, _, false, rfl, .ty _, .base (.int i), kit_ty (by decide +kernel), false, rfl, true, rfl, iteT ?_⟩
    refine ⟨_, rfl, _, rfl, _, _, rfl, rfl, _, rfl, ?_⟩
    by_cases e : l ≤ i
    · rw [if_pos (decide_eq_true e)]
      refine ⟨_, rfl, _, _, rfl, rfl, ?_⟩
      have : decide (l ≤ i ∧ i ≤ m) = decide (i ≤ m) := by simp [e]
      rw [this] at k
      exact k
    · rw [if_neg (by simp [e])]
      have : decide (l ≤ i ∧ i ≤ m) = false := by simp [e]
      rw [this] at k
      exact k
/-! ### need_colours -/
def spNeedCol : Sp := fun vs H Q _ => ∃ i : Int, vs = [.int i] ∧ 1 ≤ i ∧ i ≤ 10 ∧ Q .non H
theorem scNeedCol : FnScope ["colours"] ["colours"] (defScope sNeedCol) := ⟨rfl, rfl, rfl, by decide +kernel, rfl, by decide +kernel, by decide +kernel⟩
theorem ok_need_colours {f : Addr} {fd : FuncData} (F : Fun K "need_colours" "need_colours" sNeedCol f fd) (T : Txt K mg CC CT) (D : GFn P w K mg base 1 "is_in" ["value", "least", "most"] spIsIn) :
    FnOk P w K mg base CX0 2 f fd ["colours"] spNeedCol := by
  obtain ⟨g, gd, GI, mI, kI, bI⟩ := D
  obtain ⟨t10, m10⟩ := T.cColours
  refine F.ok scNeedCol (fun vs H Q E h => ?_) (fun cdv A outer s H vs Q E hr h => ?_)
  · obtain ⟨i, rfl, _⟩ := h
    rfl
  · obtain ⟨i, rfl, h1, h2, k⟩ := h
    refine ⟨_, pss_one (ps_if (pt_not (pt_val (pe_call GI hr (by rfl) mI kI bI .nil pass0 (pa_cons (pv 0) (pa_cons pe_int (pa_cons (pe_glob (v := .int 10) rfl m10 ⟨_, rfl⟩) pa_nil)))))) (pss_one ps_never) pss_nil), ?_⟩
    refine ⟨_, rfl, _, _, _, rfl, true, ?_, iteF k⟩
    simp [h1, h2]
/-! ### heap helpers -/
theorem same_new {H : Hp} {p : Addr} {o : HO} (hp : H p = none) : Same H (upd H p o) := fun b u e => by rw [upd_ne (ne_of_none e hp)]; exact e
theorem sla_of {H : Hp} {a : Addr} {xs : List V} {lo hi : Option Int} {Q : VK} (h : H a = some (.tup xs)) (k : ∀ b H', Same H H' → H' b = some (.tup (cutV xs lo hi)) → Q (.ref b) H') : rSlA K (.ref a) lo hi H Q := by
  refine ⟨a, xs, rfl, SqT.of h, fun hw => ?_, fun _ p hp => k p _ (same_new hp) upd_same⟩
  refine k a H (Same.refl H) ?_
  have : cutV xs lo hi = xs := by
    unfold cutV
    rw [hw.1, hw.2, List.drop_zero, Nat.sub_zero, List.take_length]
  rw [this]; exact h
theorem cata_of {H : Hp} {a b : Addr} {xs ys : List V} {Q : VK} (ha : H a = some (.tup xs)) (hb : H b = some (.tup ys)) (hl : xs.length + ys.length ≤ sizeLine) (k : ∀ c H', Same H H' → H' c = some (.tup (xs ++ ys)) → Q (.ref c) H') : rCatA K (.ref a) (.ref b) H Q := by
  refine ⟨a, b, xs, ys, rfl, rfl, SqT.of ha, SqT.of hb, hl, fun e => ?_, fun _ e => ?_, fun _ _ p hp => k p _ (same_new hp) upd_same⟩
  · subst e; exact k b H (Same.refl H) hb
  · subst e; exact k a H (Same.refl H) (by rw [List.append_nil]; exact ha)
theorem line1000 {n : Nat} (h : n ≤ 1000000) : n ≤ sizeLine := by rw [sizeLine_eq]; omega
theorem ValAt.keep {H H' : Hp} {v : V} {u : Val} (a : ValAt H v u) (s : Same H H') : ValAt H' v u := by
  obtain ⟨t, t2, e, h1, h2⟩ := a
  exact ⟨t, t2, e, s _ _ h1, s _ _ h2⟩
theorem KeyAt.keep {H H' : Hp} {k : KK} {b : Addr} (a : KeyAt H k b) (s : Same H H') : KeyAt H' k b := s _ _ a
/-! ### Cheapest -/
def selfC (CC : Addr) (H : Hp) (a : Addr) : Prop := ∃ dx, H a = some (.ins CC dx [])
def spNoPrice : Sp := fun vs H Q _ => ∃ a : Addr, vs = [.ref a] ∧ Q (.int 0) H
theorem scNoPrice : FnScope ["self"] ["self"] (defScope sNoPrice) := ⟨rfl, rfl, rfl, by decide +kernel, rfl, by decide +kernel, by decide +kernel⟩
theorem ok_no_price {f : Addr} {fd : FuncData} (F : Fun K "no_price" "Cheapest.no_price" sNoPrice f fd) : FnOk P w K mg base CX0 1 f fd ["self"] spNoPrice := by
  refine F.ok scNoPrice (fun vs H Q E h => ?_) (fun cdv A outer s H vs Q E hr h => ?_)
  · obtain ⟨a, rfl, _⟩ := h
    rfl
  · obtain ⟨a, rfl, k⟩ := h
    exact ⟨_, pss_one (ps_ret pe_int), k⟩
def spMorePrice : Sp := fun vs H Q _ => ∃ (a : Addr) (i j : Int), vs = [.ref a, .int i, .int j] ∧ Q (.int (i + j)) H
theorem scMorePrice : FnScope ["self", "total", "price"] ["self", "total", "price"] (defScope sMorePrice) := ⟨rfl, rfl, rfl, by decide +kernel, rfl, by decide +kernel, by decide +kernel⟩
theorem ok_more_price {f : Addr} {fd : FuncData} (F : Fun K "more_price" "Cheapest.more_price" sMorePrice f fd) : FnOk P w K mg base CX0 1 f fd ["self", "total", "price"] spMorePrice := by
  refine F.ok scMorePrice (fun vs H Q E h => ?_) (fun cdv A outer s H vs Q E hr h => ?_)
  · obtain ⟨a, i, j, rfl, _⟩ := h
    rfl
  · obtain ⟨a, i, j, rfl, k⟩ := h
    exact ⟨_, pss_one (ps_ret (pe_op op_add (pv 1) (pv 2))), _, rfl, _, rfl, _, _, rfl, rfl, k⟩
def spBegin : Sp := fun vs H Q _ => ∃ (a : Addr) (i c : Int), vs = [.ref a, .int i, .int c] ∧ ∀ H' v, Same H H' → ValAt H' v (i, [c]) → Q v H'
theorem scBegin : FnScope ["self", "price", "colour"] ["self", "price", "colour"] (defScope sBegin) := ⟨rfl, rfl, rfl, by decide +kernel, rfl, by decide +kernel, by decide +kernel⟩
theorem ok_begin {f : Addr} {fd : FuncData} (F : Fun K "begin" "Cheapest.begin" sBegin f fd) : FnOk P w K mg base CX0 1 f fd ["self", "price", "colour"] spBegin := by
  refine F.ok scBegin (fun vs H Q E h => ?_) (fun cdv A outer s H vs Q E hr h => ?_)
  · obtain ⟨a, i, j, rfl, _⟩ := h
    rfl
  · obtain ⟨a, i, c, rfl, k⟩ := h
    refine ⟨_, pss_one (ps_ret (pe_tup (pa_cons (pv 1) (pa_cons (pe_tup (pa_cons (pv 2) pa_nil)) pa_nil)))), ?_⟩
    refine ⟨_, rfl, _, rfl, (by show 1 ≤ sizeLine; decide), fun p hp => ⟨(by show 2 ≤ sizeLine; decide), fun q hq => ?_⟩⟩
    exact k _ _ ((same_new hp).trans (same_new hq)) ⟨q, p, rfl, upd_same, same_new hq _ _ upd_same⟩
def spExtend (K : PySem.W.Frag) : Sp := fun vs H Q _ => ∃ (a l : Addr) (v : V) (u : Val) (i : Int) (cs : List Int), vs = [.ref a, v, .int i, .ref l] ∧ ValAt H v u ∧ SqL K H l (cs.map V.int) ∧ u.2.length ≤ 1000 ∧ cs.length ≤ 1000 ∧
  ∀ H' v, Same H H' → ValAt H' v (u.1 + i, u.2 ++ cs) → Q v H'
theorem scExtend : FnScope ["self", "value", "price", "colours"] ["self", "value", "price", "colours"] (defScope sExtend) := ⟨rfl, rfl, rfl, by decide +kernel, rfl, by decide +kernel, by decide +kernel⟩
theorem ok_extend {f : Addr} {fd : FuncData} (F : Fun K "extend" "Cheapest.extend" sExtend f fd) (T : Txt K mg CC CT) : FnOk P w K mg base CX0 1 f fd ["self", "value", "price", "colours"] (spExtend K) := by
  refine F.ok scExtend (fun vs H Q E h => ?_) (fun cdv A outer s H vs Q E hr h => ?_)
  · obtain ⟨a, l, v, u, i, cs, rfl, _⟩ := h
    rfl
  · obtain ⟨a, l, v, u, i, cs, rfl, ⟨t, t2, rfl, h1, h2⟩, hL, n1, n2, k⟩ := h
    refine ⟨_, pss_one (ps_ret (pe_tup (pa_cons (pe_op op_add (pe_ix ix_tup (pv 1) pe_int (fun _ _ => rfl)) (pv 2)) (pa_cons
      (pe_op op_catA (pe_ix ix_tup (pv 1) pe_int (fun _ _ => rfl)) (pe_callTy call_tuple_of (by rfl) T.zTuple (by decide +kernel) (pa_cons (pv 3) pa_nil))) pa_nil)))), ?_⟩
    refine ⟨_, rfl, t, _, _, _, rfl, rfl, SqT.of h1, rfl, _, rfl, _, _, rfl, rfl, ?_⟩
    refine ⟨_, rfl, t, _, _, _, rfl, rfl, SqT.of h1, rfl, _, rfl, l, _, rfl, .inl ⟨hL, fun p hp => ?_⟩⟩
    refine cata_of (same_new hp _ _ h2) upd_same ?_ fun c H' s' hc => ?_
    · rw [List.length_map, List.length_map]; exact line1000 (by omega)
    · refine ⟨(by show 2 ≤ sizeLine; decide), fun q hq => ?_⟩
      refine k _ _ (((same_new hp).trans s').trans (same_new hq)) ⟨q, c, rfl, upd_same, same_new hq _ _ ?_⟩
      rw [hc, List.map_append]
def spJoin : Sp := fun vs H Q _ => ∃ (a : Addr) (x y : V) (u v : Val), vs = [.ref a, x, y] ∧ ValAt H x u ∧ ValAt H y v ∧ ∀ z, ValAt H z (vmin u v) → Q z H
theorem scJoin : FnScope ["self", "one", "other"] ["self", "one", "other"] (defScope sJoin) := ⟨rfl, rfl, rfl, by decide +kernel, rfl, by decide +kernel, by decide +kernel⟩
theorem ok_join {f : Addr} {fd : FuncData} (F : Fun K "join" "Cheapest.join" sJoin f fd) (T : Txt K mg CC CT) : FnOk P w K mg base CX0 1 f fd ["self", "one", "other"] spJoin := by
  refine F.ok scJoin (fun vs H Q E h => ?_) (fun cdv A outer s H vs Q E hr h => ?_)
  · obtain ⟨a, x, y, u, v, rfl, _⟩ := h
    rfl
  · obtain ⟨a, x, y, u, v, rfl, h1, h2, k⟩ := h
    refine ⟨_, pss_one (ps_ret (pe_callB (cr_min2V rfl hr.units) (by rfl) T.zMin (by decide +kernel) (pa_cons (pv 1) (pa_cons (pv 2) pa_nil)))), ?_⟩
    refine ⟨_, rfl, _, rfl, _, _, _, _, rfl, h1, h2, ?_⟩
    unfold vmin at k
    by_cases e : vlt v u
    · rw [if_pos e] at k ⊢; exact k _ h2
    · rw [if_neg e] at k ⊢; exact k _ h1
def closeP (price : Int) (b : Nat) (u : Val) : Val := (u.1 - price, u.2.dropLast.drop (u.2.dropLast.length - b) ++ u.2.dropLast.take (u.2.dropLast.length - b))
def spClose : Sp := fun vs H Q _ => ∃ (a : Addr) (x : V) (u : Val) (i : Int) (b : Nat), vs = [.ref a, x, .int i, .int b] ∧ ValAt H x u ∧ u.2 ≠ [] ∧ u.2.length ≤ 1000 ∧ b ≤ u.2.dropLast.length ∧
  ∀ H' v, Same H H' → ValAt H' v (closeP i b u) → Q v H'
theorem scClose : FnScope ["self", "value", "price", "begin", "colours", "cut"] ["self", "value", "price", "begin"] (defScope sClose) := ⟨rfl, rfl, rfl, by decide +kernel, rfl, by decide +kernel, by decide +kernel⟩
theorem ok_close {f : Addr} {fd : FuncData} (F : Fun K "close" "Cheapest.close" sClose f fd) (T : Txt K mg CC CT) : FnOk P w K mg base CX0 1 f fd ["self", "value", "price", "begin"] spClose := by
  refine F.ok scClose (fun vs H Q E h => ?_) (fun cdv A outer s H vs Q E hr h => ?_)
  · obtain ⟨a, x, u, i, b, rfl, _⟩ := h
    rfl
  · obtain ⟨a, x, u, i, b, rfl, ⟨t, t2, rfl, h1, h2⟩, hne, hl, hb, k⟩ := h
    refine ⟨_, pss_cons (ps_set (i := 4) scClose.nd rfl (Or.inl rfl) (pe_slice sl_tupA (pe_ix ix_tup (pv 1) pe_int (fun _ _ => rfl)) po_none (po_some (pe_un un_neg pe_int))))
      (pss_cons (ps_set (i := 5) scClose.nd rfl (Or.inl rfl) (pe_op op_sub (pe_callB call_len_seq (by rfl) T.zLen PySem.boot_len (pa_cons (pv 4) pa_nil)) (pv 3)))
      (pss_one (ps_ret (pe_tup (pa_cons (pe_op op_sub (pe_ix ix_tup (pv 1) pe_int (fun _ _ => rfl)) (pv 2)) (pa_cons
        (pe_op op_catA (pe_slice sl_tupA (pv 4) (po_some (pv 5)) po_none) (pe_slice sl_tupA (pv 4) po_none (po_some (pv 5)))) pa_nil)))))), ?_⟩
    refine ⟨_, rfl, t, _, _, _, rfl, rfl, SqT.of h1, rfl, _, rfl, _, rfl, sla_of h2 fun c H1 s1 hc => ?_⟩
    have ec : cutV (u.2.map V.int) none (some (-1)) = u.2.dropLast.map V.int := by
      unfold cutV
      rw [List.map_dropLast, List.dropLast_eq_take, HT.sIx_none, List.drop_zero]
      have : HT.sIx (u.2.map V.int).length (u.2.map V.int).length (some (-1)) = (u.2.map V.int).length - 1 := by
        unfold HT.sIx
        simp only [Int.reduceNeg, Int.reduceLT, if_true]
        have : 0 < u.2.length := List.length_pos_iff.mpr hne
        rw [List.length_map]
        omega
      rw [this, Nat.sub_zero]
    rw [ec] at hc
    generalize hd : u.2.dropLast = ds at hc hb
    have hds : ds.length ≤ 1000 := by rw [← hd, List.length_dropLast]; omega
    refine ⟨_, rfl, c, _, rfl, .inr (SqT.of hc), _, rfl, _, _, rfl, rfl, ?_⟩
    refine ⟨_, rfl, t, _, _, _, rfl, rfl, SqT.of (s1 _ _ h1), rfl, _, rfl, _, _, rfl, rfl, ?_⟩
    refine ⟨_, rfl, _, rfl, _, rfl, ?_⟩
    dsimp only [tNoPart]
    refine sla_of hc fun d H2 s2 hd2 => ?_
    refine ⟨_, rfl, _, rfl, _, rfl, ?_⟩
    refine sla_of (s2 _ _ hc) fun e H3 s3 he => ?_
    have h3 := s3 _ _ hd2
    have z1 : ((ds.map V.int).length : Int) - (b : Int) = ((ds.length - b : Nat) : Int) := by rw [List.length_map]; omega
    rw [z1] at he h3
    have e1 : cutV (ds.map V.int) (some ((ds.length - b : Nat) : Int)) none = (ds.drop (ds.length - b)).map V.int := by
      unfold cutV
      rw [HT.sIx_none, HT.sIx_nat, List.length_map, Nat.min_eq_left (Nat.sub_le _ _), ← List.map_drop, ← List.map_take]
      congr 1
      rw [List.take_of_length_le (by rw [List.length_drop]; omega)]
    have e2 : cutV (ds.map V.int) none (some ((ds.length - b : Nat) : Int)) = (ds.take (ds.length - b)).map V.int := by
      unfold cutV
      rw [HT.sIx_none, HT.sIx_nat, List.length_map, Nat.min_eq_left (Nat.sub_le _ _), List.drop_zero, Nat.sub_zero, ← List.map_take]
    rw [e2] at he
    rw [e1] at h3
    refine cata_of h3 he ?_ fun g H4 s4 hg => ?_
    · rw [List.length_map, List.length_map, List.length_drop, List.length_take]; exact line1000 (by omega)
    · refine ⟨(by show 2 ≤ sizeLine; decide), fun q hq => ?_⟩
      refine k _ _ ((((s1.trans s2).trans s3).trans s4).trans (same_new hq)) ⟨q, g, rfl, upd_same, same_new hq _ _ ?_⟩
      rw [hg]
      unfold closeP
      rw [hd, List.map_append]
end
end Flk

set_option Elab.async false
set_option linter.all false
set_option maxRecDepth 100000
set_option maxHeartbeats 4000000
/-! The walk, 2: a Table as it stands; suits, is_still, stretch. -/
namespace Flk
open PySem PySem.Spec PyProof.Rows L2
/-- the attributes of a Table -/
def attrs : List Str := ["many", "is_ring", "held", "costs", "goals", "longest", "sums", "last"]
structure TF (fs : List (Str × V)) (n longest : Nat) (ring : Bool) (hd cs gl sm : Addr) (last : Option Int) : Prop where
  len : fs.length ≤ (if last.isSome = true then 100 else 99)
  many : fs.lookup ("many" : Str) = some (.int n)
  ring : fs.lookup ("is_ring" : Str) = some (.bl ring)
  held : fs.lookup ("held" : Str) = some (.ref hd)
  costs : fs.lookup ("costs" : Str) = some (.ref cs)
  goals : fs.lookup ("goals" : Str) = some (.ref gl)
  longest : fs.lookup ("longest" : Str) = some (.int longest)
  sums : fs.lookup ("sums" : Str) = some (.ref sm)
  last : ∀ l, last = some l → fs.lookup ("last" : Str) = some (.int l)
  no : ∀ m, m ∉ attrs → fs.lookup m = none
structure CostAt (H : Hp) (v : V) (T : Tb) (k : Nat) : Prop where
  ex : ∃ (d : Addr) (kvs : List (Key × V)) (ns : List Int), v = .ref d ∧ H d = some (.dK kvs) ∧ kvs.map (·.1) = ns.map Sum.inl ∧ ns.Perm (T.dom k) ∧ ∀ c ∈ T.dom k, valV kvs (Sum.inl c : Key) = some (.int (T.price k c))
def GoalAt (H : Hp) (v : V) (T : Tb) (k : Nat) : Prop := (v = .non ∧ ∀ c, T.suits k c = true) ∨ ∃ (g : Addr) (z : Int), v = .ref g ∧ H g = some (.tup [.int z]) ∧ ∀ c, T.suits k c = (c == z)
structure TabD (CC : Addr) (H : Hp) (T : Tb) (hd cs gl sm : Addr) : Prop where
  held : ∃ hs : List Int, H hd = some (.lst (hs.map V.int)) ∧ ∀ k, k < T.n → decide ((k : Int) ∈ hs) = T.held k
  costs : ∃ cl : List V, H cs = some (.lst cl) ∧ ∀ k, k < T.n → ∃ v, cl[k]? = some v ∧ CostAt H v T k
  goals : ∃ gs : List V, H gl = some (.lst gs) ∧ ∀ k, k < T.n → ∃ v, gs[k]? = some v ∧ GoalAt H v T k
  sums : ∃ dx, H sm = some (.ins CC dx [])
structure TabW (T : Tb) : Prop where
  n0 : 0 < T.n
  n6 : T.n ≤ 6
  lg : T.longest = T.n + 1
  srt : ∀ k, (T.dom k).Pairwise (· < ·)
  dln : ∀ k, (T.dom k).length ≤ 3
  rng : ∀ k, ∀ c ∈ T.dom k, 0 ≤ c ∧ c < 3
def TabAt (CC CT : Addr) (H : Hp) (a : Addr) (T : Tb) (ring : Bool) (last : Option Int) : Prop :=
  ∃ (dx : Addr) (fs : List (Str × V)) (hd cs gl sm : Addr), H a = some (.ins CT dx fs) ∧ TF fs T.n T.longest ring hd cs gl sm last ∧ TabD CC H T hd cs gl sm
/-- all but what stands at a is kept -/
def SameX (a : Addr) (H H' : Hp) : Prop := ∀ b o, b ≠ a → H b = some o → H' b = some o
theorem same_x {H H' : Hp} (s : Same H H') (a : Addr) : SameX a H H' := fun b o _ e => s b o e
theorem SameX.trans {a : Addr} {H H1 H2 : Hp} (s : SameX a H H1) (t : SameX a H1 H2) : SameX a H H2 := fun b o n e => t b o n (s b o n e)
theorem sameX_upd {H : Hp} {a : Addr} {o : HO} : SameX a H (upd H a o) := fun b u n e => by rw [upd_ne n]; exact e
theorem CostAt.keepX {H H' : Hp} {v : V} {T : Tb} {k : Nat} {a C dx : Addr} {fs : List (Str × V)} (c : CostAt H v T k) (ha : H a = some (.ins C dx fs)) (s : SameX a H H') : CostAt H' v T k := by
  obtain ⟨d, kvs, ns, e, h, r⟩ := c.ex
  exact ⟨d, kvs, ns, e, s _ _ (ne_of h ha (by intro z; cases z)) h, r⟩
theorem GoalAt.keepX {H H' : Hp} {v : V} {T : Tb} {k : Nat} {a C dx : Addr} {fs : List (Str × V)} (c : GoalAt H v T k) (ha : H a = some (.ins C dx fs)) (s : SameX a H H') : GoalAt H' v T k := by
  rcases c with c | ⟨g, z, e, h, r⟩
  · exact .inl c
  · exact .inr ⟨g, z, e, s _ _ (ne_of h ha (by intro z; cases z)) h, r⟩
theorem TabD.keepX {CC : Addr} {H H' : Hp} {T : Tb} {hd cs gl sm a C dx : Addr} {fs : List (Str × V)} (t : TabD CC H T hd cs gl sm) (ha : H a = some (.ins C dx fs)) (hne : sm ≠ a) (s : SameX a H H') : TabD CC H' T hd cs gl sm := by
  obtain ⟨hs, h1, h2⟩ := t.held
  obtain ⟨cl, c1, c2⟩ := t.costs
  obtain ⟨gs, g1, g2⟩ := t.goals
  obtain ⟨dx', e⟩ := t.sums
  refine ⟨⟨hs, s _ _ (ne_of h1 ha (by intro z; cases z)) h1, h2⟩, ⟨cl, s _ _ (ne_of c1 ha (by intro z; cases z)) c1, fun k hk => ?_⟩, ⟨gs, s _ _ (ne_of g1 ha (by intro z; cases z)) g1, fun k hk => ?_⟩, ⟨dx', s _ _ hne e⟩⟩
  · obtain ⟨v, q, r⟩ := c2 k hk
    exact ⟨v, q, r.keepX ha s⟩
  · obtain ⟨v, q, r⟩ := g2 k hk
    exact ⟨v, q, r.keepX ha s⟩
theorem TabD.keep {CC : Addr} {H H' : Hp} {T : Tb} {hd cs gl sm : Addr} (t : TabD CC H T hd cs gl sm) (s : Same H H') : TabD CC H' T hd cs gl sm := by
  obtain ⟨hs, h1, h2⟩ := t.held
  obtain ⟨cl, c1, c2⟩ := t.costs
  obtain ⟨gs, g1, g2⟩ := t.goals
  obtain ⟨dx', e⟩ := t.sums
  refine ⟨⟨hs, s _ _ h1, h2⟩, ⟨cl, s _ _ c1, fun k hk => ?_⟩, ⟨gs, s _ _ g1, fun k hk => ?_⟩, ⟨dx', s _ _ e⟩⟩
  · obtain ⟨v, q, r⟩ := c2 k hk
    obtain ⟨d, kvs, ns, e, h, r⟩ := r.ex
    exact ⟨v, q, ⟨d, kvs, ns, e, s _ _ h, r⟩⟩
  · obtain ⟨v, q, r⟩ := g2 k hk
    refine ⟨v, q, ?_⟩
    rcases r with c | ⟨g, z, e, h, r⟩
    · exact .inl c
    · exact .inr ⟨g, z, e, s _ _ h, r⟩
theorem TabAt.keep {CC CT : Addr} {H H' : Hp} {a : Addr} {T : Tb} {ring : Bool} {last : Option Int} (t : TabAt CC CT H a T ring last) (s : Same H H') : TabAt CC CT H' a T ring last := by
  obtain ⟨dx, fs, hd, cs, gl, sm, e, f, d⟩ := t
  exact ⟨dx, fs, hd, cs, gl, sm, s _ _ e, f, d.keep s⟩
theorem iteE {b : Bool} {A B : Prop} (h : b = false) (x : B) : if b = true then A else B := by rw [h]; exact x
theorem iteY {b : Bool} {A B : Prop} (h : b = true) (x : A) : if b = true then A else B := by rw [if_pos h]; exact x
theorem inV_ints (c : Int) : ∀ ns : List Int, inV (.int c) (ns.map V.int) = decide (c ∈ ns)
  | [] => rfl
  | n :: ns => by
    show (eqV (.int n) (.int c) || inV (.int c) (ns.map V.int)) = _
    rw [inV_ints c ns]
    show ((n == c) || decide (c ∈ ns)) = _
    by_cases e : n = c
    · subst e; simp
    · have e' : ¬ c = n := fun z => e z.symm
      simp [e, e']
theorem flat_ints (ns : List Int) : (ns.map V.int).all flatV = true := by
  rw [List.all_eq_true]
  intro v hv
  obtain ⟨n, _, rfl⟩ := List.mem_map.mp hv
  rfl
theorem valV_none {kvs : List (Key × V)} {c : Int} {ns : List Int} (h : kvs.map (·.1) = ns.map Sum.inl) (hc : c ∉ ns) : valV kvs (Sum.inl c : Key) = none := by
  unfold valV
  rw [Option.map_eq_none_iff, List.find?_eq_none]
  intro x hx
  simp only [decide_eq_true_eq]
  intro e
  have : x.1 ∈ kvs.map (·.1) := List.mem_map.mpr ⟨x, hx, rfl⟩
  rw [h, e] at this
  obtain ⟨n, hn, e2⟩ := List.mem_map.mp this
  cases e2
  exact hc hn
theorem CostAt.get {H : Hp} {v : V} {T : Tb} {k : Nat} (t : CostAt H v T k) (c : Int) : ∃ d kvs, v = .ref d ∧ H d = some (.dK kvs) ∧ valV kvs (Sum.inl c : Key) = if c ∈ T.dom k then some (.int (T.price k c)) else none := by
  obtain ⟨d, kvs, ns, e, h, e1, e2, e3⟩ := t.ex
  refine ⟨d, kvs, e, h, ?_⟩
  by_cases q : c ∈ T.dom k
  · rw [if_pos q]; exact e3 c q
  · rw [if_neg q]
    exact valV_none e1 fun z => q (e2.mem_iff.mp z)
section
variable {P : Program} {w : World} {K : PySem.W.Frag} {mg : Str → Option Value} {base : Heap} {CC CT : Addr}
/-! ### suits -/
def spSuits (CC CT : Addr) : Sp := fun vs H Q _ => ∃ (a : Addr) (T : Tb) (ring : Bool) (last : Option Int) (k : Nat) (c : Int), vs = [.ref a, .int k, .int c] ∧ TabAt CC CT H a T ring last ∧ k < T.n ∧ Q (.bl (T.suits k c)) H
theorem scSuits : FnScope ["self", "cell", "colour"] ["self", "cell", "colour"] (defScope sSuits) := ⟨rfl, rfl, rfl, by decide +kernel, rfl, by decide +kernel, by decide +kernel⟩
theorem ok_suits {f : Addr} {fd : FuncData} (F : Fun K "suits" "Table.suits" sSuits f fd) (T : Txt K mg CC CT) : FnOk P w K mg base CX0 1 f fd ["self", "cell", "colour"] (spSuits CC CT) := by
  refine F.ok scSuits (fun vs H Q E h => ?_) (fun cdv A outer s H vs Q E hr h => ?_)
  · obtain ⟨a, T', ring, last, k, c, rfl, _⟩ := h
    rfl
  · obtain ⟨a, T', ring, last, k, c, rfl, ⟨dx, fs, hd, cs, gl, sm, ha, f, d⟩, hk, q⟩ := h
    obtain ⟨gs, hg, hgs⟩ := d.goals
    obtain ⟨v, hv, hG⟩ := hgs k hk
    refine ⟨_, pss_one (ps_ret (pe_or (pe_cmpR op_isN (pe_ix ix_list (pe_fld (pv 0) rfl) (pv 1) (fun _ _ => rfl)) pe_non (nomark _))
      (pe_one (pe_cmpR op_in_seq (pv 2) (pe_ix ix_list (pe_fld (pv 0) rfl) (pv 1) (fun _ _ => rfl)) (by rfl))))), ?_⟩
    refine ⟨_, rfl, a, CT, dx, _, _, rfl, ha, T.clT, T.nGoals, f.goals, _, rfl, gl, gs, _, v, rfl, rfl, SqL.of hg, atI_nat hv, rfl, _, rfl, ?_⟩
    rcases hG with ⟨rfl, e⟩ | ⟨g, z, rfl, hz, e⟩
    · rw [if_pos (by decide)]
      rw [e] at q
      exact q
    · refine iteE (decide_eq_false (fun z => nomatch z)) ?_
      refine ⟨_, rfl, _, rfl, a, CT, dx, _, _, rfl, ha, T.clT, T.nGoals, f.goals, _, rfl, gl, gs, _, _, rfl, rfl, SqL.of hg, atI_nat hv, g, _, rfl, .inr (SqT.of hz), rfl, rfl, ?_⟩
      have e1 : inV (.int c) [.int z] = (c == z) := by
        show ((z == c) || false) = _
        rw [Bool.or_false]
        exact Bool.beq_comm
      rw [e, ← e1] at q
      exact q
/-! ### is_still -/
def spStill (CC CT : Addr) : Sp := fun vs H Q _ => ∃ (a : Addr) (T : Tb) (ring : Bool) (last : Option Int) (k : Nat) (b : Option Int) (o n : Int), vs = [.ref a, .int k, oV b, .int o, .int n] ∧ TabAt CC CT H a T ring last ∧ k < T.n ∧ Q (.bl (T.still k b o n)) H
theorem scStill : FnScope ["self", "cell", "before", "own", "behind"] ["self", "cell", "before", "own", "behind"] (defScope sStill) := ⟨rfl, rfl, rfl, by decide +kernel, rfl, by decide +kernel, by decide +kernel⟩
theorem ok_is_still {f : Addr} {fd : FuncData} (F : Fun K "is_still" "Table.is_still" sStill f fd) (T : Txt K mg CC CT) : FnOk P w K mg base CX0 1 f fd ["self", "cell", "before", "own", "behind"] (spStill CC CT) := by
  refine F.ok scStill (fun vs H Q E h => ?_) (fun cdv A outer s H vs Q E hr h => ?_)
  · obtain ⟨a, T', ring, last, k, b, o, n, rfl, _⟩ := h
    rfl
  · obtain ⟨a, T', ring, last, k, b, o, n, rfl, ⟨dx, fs, hd, cs, gl, sm, ha, f, d⟩, hk, q⟩ := h
    obtain ⟨hs, hh, hhs⟩ := d.held
    refine ⟨_, pss_one (ps_ret (pe_or (pe_cmpR op_in_seq (pv 1) (pe_fld (pv 0) rfl) (by rfl)) (pe_or (pe_cmpR op_isN (pv 2) pe_non (nomark _))
      (pe_or (pe_cmpR op_ne (pv 2) (pv 4) (nomark _)) (pe_one (pe_cmpR op_eq (pv 2) (pv 3) (nomark _))))))), ?_⟩
    refine ⟨_, rfl, _, rfl, a, CT, dx, _, _, rfl, ha, T.clT, T.nHeld, f.held, hd, _, rfl, .inl (SqL.of hh), rfl, flat_ints hs, _, rfl, ?_⟩
    show if (inV (.int k) (hs.map V.int)) = true then _ else _
    rw [inV_ints, hhs k hk]
    unfold Tb.still at q
    cases e1 : T'.held k
    · rw [e1] at q
      refine iteF ⟨_, rfl, rfl, _, rfl, ?_⟩
      cases b with
      | none => exact iteT q
      | some i =>
        refine iteF ⟨_, rfl, _, rfl, rfl, _, rfl, ?_⟩
        have e2 : (!decide ((V.int i) = V.int n)) = (some i != some n) := by rw [dec_int]; rfl
        show if (!decide ((V.int i) = V.int n)) = true then _ else _
        rw [e2]
        cases e3 : (some i != some n)
        · rw [e3] at q
          refine iteF ⟨_, rfl, _, rfl, rfl, ?_⟩
          show Q (.bl (decide (V.int i = V.int o))) H
          rw [dec_int]
          exact q
        · rw [e3] at q
          exact iteT q
    · rw [e1] at q
      exact iteT q
end
end Flk

set_option Elab.async false
set_option linter.all false
set_option maxRecDepth 100000
set_option maxHeartbeats 4000000
/-! The walk, 3: stretch. -/
namespace Flk
open PySem PySem.Spec PyProof.Rows L2
theorem ifVar {c : Bool} {i j : Nat} {σ : L2.St} {H : Hp} {Q : VK} {x y z : V} (hi : σ[i]? = some (some x)) (hj : σ[j]? = some (some y)) (e : (if c = true then x else y) = z) (q : Q z H) : if c = true then tVar i σ H Q else tVar j σ H Q := by
  cases c
  · exact iteF ⟨y, hj, by rw [← e] at q; exact q⟩
  · exact iteT ⟨x, hi, by rw [← e] at q; exact q⟩
theorem same_upd {H H' : Hp} {l : Addr} {o : HO} (s : Same H H') (h : H l = none) : Same H (upd H' l o) := fun b u e => by
  rw [upd_ne (ne_of_none e h)]; exact s _ _ e
theorem altV (own other : Int) (i : Nat) : (if decide (V.int (((i : Nat) : Int) % 2) = V.int 0) = true then V.int own else V.int other) = V.int (altC own other i) := by
  rw [dec_int]
  unfold altC
  by_cases e : i % 2 = 0
  · rw [if_pos e, if_pos (by simp; omega)]
  · rw [if_neg e, if_neg (by simp; omega)]
theorem lastV (own other : Int) {L : Nat} (h : 1 ≤ L) : (if decide (V.int (((L : Nat) : Int) % 2) = V.int 1) = true then V.int own else V.int other) = V.int (altC own other (L - 1)) := by
  rw [dec_int]
  unfold altC
  by_cases e : (L - 1) % 2 = 0
  · rw [if_pos e, if_pos (by simp; omega)]
  · rw [if_neg e, if_neg (by simp; omega)]
theorem st_if2 {c : TT} {t1 t2 : TS} {D : Ends} {σ : L2.St} {H : Hp} {bad : Bool} (h : Ans c σ H bad) (hy : bad = true → t1 D σ H) (hn : bad = false → t2 D σ H) : tIfS c t1 t2 D σ H := by
  cases bad
  · exact st_no h (hn rfl)
  · exact st_yes h (hy rfl)
theorem ans_or2 {t u : TT} {σ : L2.St} {H : Hp} {b1 b2 : Bool} (h1 : Ans t σ H b1) (h2 : Ans u σ H b2) : Ans (tOr t u) σ H (b1 || b2) := by
  cases b1
  · exact ans_or h1 h2
  · exact ans_or1 h1
theorem cellV (T : Tb) (b j : Nat) : (((b + j : Nat) : Int)) % (T.n : Int) = ((T.cell b j : Nat) : Int) := rfl
section
variable {P : Program} {w : World} {K : PySem.W.Frag} {mg : Str → Option Value} {base : Heap} {CC CT : Addr}
/-- what the methods of a Table lean on: the methods of Cheapest -/
structure Meths (P : Program) (w : World) (K : PySem.W.Frag) (mg : Str → Option Value) (base : Heap) (CC : Addr) : Prop where
  np : MFn P w K mg base CC 1 "no_price" ["self"] spNoPrice
  mp : MFn P w K mg base CC 1 "more_price" ["self", "total", "price"] spMorePrice
  bg : MFn P w K mg base CC 1 "begin" ["self", "price", "colour"] spBegin
  ex : MFn P w K mg base CC 1 "extend" ["self", "value", "price", "colours"] (spExtend K)
  jn : MFn P w K mg base CC 1 "join" ["self", "one", "other"] spJoin
  cl : MFn P w K mg base CC 1 "close" ["self", "value", "price", "begin"] spClose
def spStretch (CC CT : Addr) : Sp := fun vs H Q _ => ∃ (a : Addr) (T : Tb) (ring : Bool) (last : Option Int) (b p L : Nat) (o n : Int), vs = [.ref a, .int b, .int p, .int L, .int o, .int n] ∧ TabAt CC CT H a T ring last ∧ TabW T ∧ 1 ≤ L ∧ L ≤ 1000 ∧
  (T.strOk b p L o n = false → ∀ H', Same H H' → Q .non H') ∧
  (T.strOk b p L o n = true → ∀ H' t l, Same H H' → H' t = some (.tup [.int (T.strPrice b p L o n), .ref l]) → H' l = some (.lst ((strCols L o n).map V.int)) → Q (.ref t) H')
theorem scStretch : FnScope ["self", "begin", "place", "length", "own", "other", "last", "price", "colours", "at", "cell", "colour", "end"] ["self", "begin", "place", "length", "own", "other"] (defScope sStretch) := ⟨rfl, rfl, rfl, by decide +kernel, rfl, by decide +kernel, by decide +kernel⟩
theorem ok_stretch {f : Addr} {fd : FuncData} (F : Fun K "stretch" "Table.stretch" sStretch f fd) (T : Txt K mg CC CT) (M : Meths P w K mg base CC) (DS : MFn P w K mg base CT 1 "suits" ["self", "cell", "colour"] (spSuits CC CT)) :
    FnOk P w K mg base CX0 2 f fd ["self", "begin", "place", "length", "own", "other"] (spStretch CC CT) := by
  obtain ⟨fnp, dnp, Gnp, mnp, bnp⟩ := M.np
  obtain ⟨fmp, dmp, Gmp, mmp, bmp⟩ := M.mp
  obtain ⟨fsu, dsu, Gsu, msu, bsu⟩ := DS
  refine F.ok scStretch (fun vs H Q E h => ?_) (fun cdv A outer s H vs Q E hr h => ?_)
  · obtain ⟨a, T', ring, last, b, p, L, o, n, rfl, _⟩ := h
    rfl
  · obtain ⟨a, T', ring, last, b, p, L, o, n, rfl, hT, W, hL, hL2, qF, qT⟩ := h
    have hu := hu_of hr
    have nd := scStretch.nd
    refine ⟨_, pss_cons (ps_set (i := 6) nd rfl (Or.inl rfl) (pe_ifExp (pt_cmpR op_eq (pe_op op_mod (pv 3) pe_int) pe_int (nomark _)) (pv 4) (pv 5)))
      (pss_cons (ps_par (i := 7) (j := 8) rfl nd rfl rfl (by decide) rfl rfl (pa_cons (pe_meth0 (pe_fld (pv 0) rfl) T.clC mnp Gnp hr bnp .nil pass0) (pa_cons (pe_lst pa_nil) pa_nil)) (by rfl))
      (pss_cons (ps_for PassesOwn.never rfl (pi_range2 (by rfl) T.zRange (pa_cons pe_int (pa_cons (pv 3) pa_nil))) (pg_name (i := 9) nd rfl (Or.inl rfl))
        (pss_cons (ps_set (i := 10) nd rfl (Or.inl rfl) (pe_op op_mod (pe_op op_add (pe_op op_add (pv 1) (pv 2)) (pv 9)) (pe_fld (pv 0) rfl)))
        (pss_cons (ps_set (i := 11) nd rfl (Or.inl rfl) (pe_ifExp (pt_cmpR op_eq (pe_op op_mod (pv 9) pe_int) pe_int (nomark _)) (pv 4) (pv 5)))
        (pss_cons (ps_if (PW.pt (pw_or (pt_cmp (pc_dnotin hu (pv 11) (pe_ix ix_list (pe_fld (pv 0) rfl) (pv 10) (fun _ _ => rfl)))) (pw_or1 (PW.pt (pw_and (pt_cmpR op_lt (pv 9) (pe_op op_sub (pv 3) pe_int) (nomark _))
            (pw_and1 (pt_cmpR op_in_seq (pv 10) (pe_fld (pv 0) rfl) (by rfl)))))))) (pss_one (ps_ret pe_non)) pss_nil)
        (pss_cons (ps_set (i := 12) nd rfl (Or.inl rfl) (pe_ifExp (pt_cmpR op_le (pv 9) (pe_op op_sub (pe_op op_sub (pv 3) pe_int) (pv 9)) (nomark _)) (pv 4) (pv 6)))
        (pss_cons (ps_if (pt_not (pt_val (pe_meth (pv 0) T.clT msu Gsu hr bsu .nil pass0 (pa_cons (pv 10) (pa_cons (pv 12) pa_nil))))) (pss_one (ps_ret pe_non)) pss_nil)
        (pss_cons (ps_set (i := 7) nd rfl (Or.inl rfl) (pe_meth (pe_fld (pv 0) rfl) T.clC mmp Gmp hr bmp .nil pass0 (pa_cons (pv 7) (pa_cons (pe_dget hu (pe_ix ix_list (pe_fld (pv 0) rfl) (pv 10) (fun _ _ => rfl)) (pv 11) (fun _ _ => rfl)) pa_nil))))
        (pss_one (ps_expr (pe_bm PySem.F.plainAttrs_list PySem.F.slot_list_append PySem.F.type_list_append mt_append (pv 8) (pa_cons (pv 11) pa_nil)))))))))))
      (pss_one (ps_ret (pe_tup (pa_cons (pv 7) (pa_cons (pv 8) pa_nil))))))), ?_⟩
    obtain ⟨dx, fs, hd, cs, gl, sm, ha, ff, dd⟩ := id hT
    obtain ⟨sx, hsm⟩ := dd.sums
    refine ⟨_, rfl, _, _, rfl, rfl, (by show (0 : Int) < 2; decide), rfl, _, rfl, ifVar rfl rfl (lastV o n hL) ?_⟩
    -- price, colours
    refine ⟨_, rfl, a, CT, dx, _, _, rfl, ha, T.clT, T.nSums, ff.sums, sm, sx, _, rfl, hsm, rfl, sm, rfl, Nat.zero_le _, fun l hl => ⟨_, _, rfl, ?_⟩⟩
    refine ⟨_, rfl, _, _, rfl, ⟨(by decide), (by decide), (by omega), (by omega)⟩, ?_⟩
    refine for_range (lo := 1) (n := ((L : Int) - 1).toNat) (fun i σ H' => ∃ (y9 y10 y11 y12 : Option V), σ = [some (.ref a), some (.int b), some (.int p), some (.int L), some (.int o), some (.int n), some (.int (altC o n (L - 1))),
        some (.int ((List.range i).map fun i => T'.price (T'.cell b (p + (i + 1))) (altC o n (i + 1))).sum), some (.ref l), y9, y10, y11, y12] ∧ Same H H' ∧ H' l = some (.lst (((List.range i).map fun i => altC o n (i + 1)).map V.int)) ∧
        ∀ j, j < i → T'.strAt b p L o n (j + 1) = true) ?_ ?_ ?_
    · exact ⟨_, _, _, _, rfl, same_new hl, upd_same, fun j hj => absurd hj (Nat.not_lt_zero _)⟩
    · rintro i σ H1 hi ⟨y9, y10, y11, y12, rfl, s1, h1, hj⟩
      have hiL : i + 1 < L := by omega
      obtain ⟨dx, fs, hd, cs, gl, sm, ha, ff, dd⟩ := id (hT.keep s1)
      obtain ⟨sx, hsm⟩ := dd.sums
      obtain ⟨cl, hcl, hcc⟩ := dd.costs
      obtain ⟨hs, hhl, hhh⟩ := dd.held
      have hcell : T'.cell b (p + (i + 1)) < T'.n := Nat.mod_lt _ W.n0
      obtain ⟨v, hv, hC⟩ := hcc _ hcell
      obtain ⟨d, kvs, rfl, hdd, hval⟩ := hC.get (altC o n (i + 1))
      have e1 : ((b : Int) + (p : Int) + (1 + (i : Int))) % (T'.n : Int) = ((T'.cell b (p + (i + 1)) : Nat) : Int) := by
        rw [← cellV]
        congr 1
        omega
      have e2 : (1 + (i : Int)) = ((i + 1 : Nat) : Int) := by omega
      refine ⟨_, rfl, _, rfl, _, _, rfl, rfl, _, rfl, _, _, rfl, rfl, _, rfl, a, CT, dx, _, _, rfl, ha, T.clT, T.nMany, ff.many, _, _, rfl, rfl, (by show (0 : Int) < (T'.n : Int); have := W.n0; omega), ?_⟩
      dsimp only
      rw [e1, e2]
      refine ⟨_, rfl, _, _, rfl, rfl, (by show (0 : Int) < 2; decide), rfl, _, rfl, ifVar rfl rfl (altV o n (i + 1)) ?_⟩
      -- colour not in self.costs[cell]
      have fail : T'.strAt b p L o n (i + 1) = false → Q .non H1 := fun e => qF (by
        cases q : T'.strOk b p L o n
        · rfl
        · rw [strOk_iff.mp q (i + 1) (by omega) hiL] at e; cases e) H1 s1
      dsimp only [gName, tSeq]
      refine st_if2 (bad := !(T'.dom (T'.cell b (p + (i + 1)))).contains (altC o n (i + 1)) || (decide (i + 1 < L - 1) && T'.held (T'.cell b (p + (i + 1))))) (ans_or2 (fun R q => ?_) (ans_and2 (fun R q => ?_) (fun R q => ?_))) (fun hb => ?_) (fun hb => ?_)
      · refine ⟨_, rfl, _, rfl, a, CT, dx, _, _, rfl, ha, T.clT, T.nCosts, ff.costs, _, rfl, cs, _, _, _, rfl, rfl, SqL.of hcl, atI_nat hv, d, _, rfl, DGet.k (k := Sum.inl (altC o n (i + 1))) hdd, _, rfl, ?_⟩
        rw [hval]
        by_cases hm : altC o n (i + 1) ∈ T'.dom (T'.cell b (p + (i + 1)))
        · rw [if_pos hm]
          rw [List.contains_iff_mem.mpr hm] at q
          exact q
        · rw [if_neg hm]
          have : (T'.dom (T'.cell b (p + (i + 1)))).contains (altC o n (i + 1)) = false := by simpa using hm
          rw [this] at q
          exact q
      · refine ⟨_, rfl, _, rfl, _, _, rfl, rfl, _, _, rfl, rfl, _, rfl, ?_⟩
        have : decide (((i + 1 : Nat) : Int) < (L : Int) - 1) = decide (i + 1 < L - 1) := by
          by_cases z : i + 1 < L - 1
          · rw [decide_eq_true z, decide_eq_true (by omega)]
          · rw [decide_eq_false z, decide_eq_false (by omega)]
        rw [this]
        exact q
      · refine ⟨_, rfl, _, rfl, a, CT, dx, _, _, rfl, ha, T.clT, T.nHeld, ff.held, hd, _, rfl, .inl (SqL.of hhl), rfl, flat_ints hs, _, rfl, ?_⟩
        show R (inV (.int ((T'.cell b (p + (i + 1)) : Nat) : Int)) (hs.map V.int)) H1
        rw [inV_ints, hhh _ hcell]
        exact q
      · refine fail ?_
        unfold Tb.strAt
        cases z1 : (T'.dom (T'.cell b (p + (i + 1)))).contains (altC o n (i + 1)) <;> rw [z1] at hb
        · rfl
        · rw [Bool.not_true, Bool.false_or] at hb
          rw [hb]
          rfl
      · rw [Bool.or_eq_false_iff] at hb
        obtain ⟨hb1, hb2⟩ := hb
        have hm : altC o n (i + 1) ∈ T'.dom (T'.cell b (p + (i + 1))) := by
          rw [← List.contains_iff_mem]
          simpa using hb1
        -- end
        have ee : (if decide (((i + 1 : Nat) : Int) ≤ (L : Int) - 1 - ((i + 1 : Nat) : Int)) = true then V.int o else V.int (altC o n (L - 1))) = V.int (if i + 1 ≤ L - 1 - (i + 1) then o else altC o n (L - 1)) := by
          by_cases z : i + 1 ≤ L - 1 - (i + 1)
          · rw [if_pos z, if_pos (decide_eq_true (by omega))]
          · rw [if_neg z, if_neg (by rw [decide_eq_true_eq]; omega)]
        refine ⟨_, rfl, _, rfl, _, _, rfl, rfl, _, rfl, _, _, rfl, rfl, _, _, rfl, rfl, _, rfl, ifVar rfl rfl ee ?_⟩
        refine ⟨_, rfl, a, dx, _, rfl, ha, ff.no _ (by decide +kernel), _, rfl, _, rfl, a, T', ring, last, _, _, rfl, hT.keep s1, hcell, _, rfl, ?_⟩
        cases hsu : T'.suits (T'.cell b (p + (i + 1))) (if i + 1 ≤ L - 1 - (i + 1) then o else altC o n (L - 1))
        · refine iteT (fail ?_)
          unfold Tb.strAt
          rw [hsu, Bool.and_false]
        refine iteF ?_
        -- price, colours
        have hget : DGet H1 d (.int (altC o n (i + 1))) (some (.int (T'.price (T'.cell b (p + (i + 1))) (altC o n (i + 1))))) := by
          have := DGet.k (k := Sum.inl (altC o n (i + 1))) hdd
          rw [hval, if_pos hm] at this
          exact this
        refine ⟨_, rfl, a, CT, dx, _, _, rfl, ha, T.clT, T.nSums, ff.sums, sm, sx, _, rfl, hsm, rfl, _, rfl, _, rfl, a, CT, dx, _, _, rfl, ha, T.clT, T.nCosts, ff.costs, _, rfl, cs, _, _, _, rfl, rfl, SqL.of hcl, atI_nat hv, _, rfl, d, _, rfl, hget, sm, _, _, rfl, ?_⟩
        refine ⟨_, rfl, .inl ⟨rfl, _, SqL.of h1⟩, _, rfl, l, _, _, rfl, rfl, h1, ?_, ?_⟩
        · rw [List.length_map, List.length_map, List.length_range]; exact small1000 (by omega)
        · refine ⟨some (.int ((i + 1 : Nat) : Int)), some (.int ((T'.cell b (p + (i + 1)) : Nat) : Int)), some (.int (altC o n (i + 1))), some (.int (if i + 1 ≤ L - 1 - (i + 1) then o else altC o n (L - 1))), ?_, same_upd s1 hl, ?_, fun j hjj => ?_⟩
          · have e3 : ((List.range (i + 1)).map fun i => T'.price (T'.cell b (p + (i + 1))) (altC o n (i + 1))).sum = ((List.range i).map fun i => T'.price (T'.cell b (p + (i + 1))) (altC o n (i + 1))).sum + T'.price (T'.cell b (p + (i + 1))) (altC o n (i + 1)) := by
              rw [List.range_succ, List.map_append, List.sum_append]
              simp
            rw [e3]
            rfl
          · rw [upd_same, List.range_succ, List.map_append, List.map_append]
            rfl
          · by_cases z : j = i
            · subst z
              unfold Tb.strAt
              rw [hsu, hb2]
              simpa using hb1
            · exact hj j (by omega)
    · rintro σ H1 ⟨y9, y10, y11, y12, rfl, s1, h1, hj⟩
      have eL : ((L : Int) - 1).toNat = L - 1 := by omega
      rw [eL] at h1 hj ⊢
      refine ⟨_, rfl, _, rfl, (by show 2 ≤ sizeLine; decide), fun t ht => ?_⟩
      refine qT (strOk_iff.mpr fun i h0 h2 => ?_) _ t l (s1.trans (same_new ht)) upd_same (same_new ht _ _ h1)
      have := hj (i - 1) (by omega)
      rw [show i - 1 + 1 = i by omega] at this
      exact this
end
end Flk

set_option Elab.async false
set_option linter.all false
set_option maxRecDepth 100000
set_option maxHeartbeats 4000000
/-! The walk, 4: further. -/
namespace Flk
open PySem PySem.Spec PyProof.Rows L2
/-- tuples stay -/
def SameT (H H' : Hp) : Prop := ∀ b xs, H b = some (.tup xs) → H' b = some (.tup xs)
theorem same_t {H H' : Hp} (s : Same H H') : SameT H H' := fun b xs e => s _ _ e
theorem SameT.trans {H H1 H2 : Hp} (s : SameT H H1) (t : SameT H1 H2) : SameT H H2 := fun b xs e => t _ _ (s _ _ e)
theorem sameT_upd {H : Hp} {a : Addr} {o u : HO} (h : H a = some o) (n : ∀ xs, o ≠ .tup xs) : SameT H (upd H a u) := fun b xs e => by
  rw [upd_ne (ne_of e h fun z => n xs z.symm)]; exact e
theorem ValAt.keepT {H H' : Hp} {v : V} {u : Val} (a : ValAt H v u) (s : SameT H H') : ValAt H' v u := by
  obtain ⟨t, t2, e, h1, h2⟩ := a
  exact ⟨t, t2, e, s _ _ h1, s _ _ h2⟩
def StepAt (H : Hp) (u : Val) (v : V) (s : Stp) : Prop := ∃ (t kb : Addr) (x : V), v = .ref t ∧ H t = some (.tup [.int s.there, .ref kb, x]) ∧ KeyAt H s.key kb ∧ ValAt H x (Val.plus u s)
theorem StepAt.keepT {H H' : Hp} {u : Val} {v : V} {st : Stp} (a : StepAt H u v st) (s : SameT H H') : StepAt H' u v st := by
  obtain ⟨t, kb, x, e, h1, h2, h3⟩ := a
  exact ⟨t, kb, x, e, s _ _ h1, s _ _ h2, h3.keepT s⟩
theorem pairedStep_keepT {H H' : Hp} {u : Val} {l : List V} {ss : List Stp} (p : Paired (StepAt H u) l ss) (s : SameT H H') : Paired (StepAt H' u) l ss := Paired.mapP p fun _ _ z => z.keepT s
theorem sorted_eq {a b : List Int} (p : a.Perm b) (ha : a.Pairwise (· ≤ ·)) (hb : b.Pairwise (· < ·)) : a = b :=
  List.Perm.eq_of_pairwise (le := (· ≤ ·)) (fun x y _ _ h1 h2 => Int.le_antisymm h1 h2) ha (hb.imp fun h => Int.le_of_lt h) p
theorem st_if_mid {c : TT} {t1 t2 : TS} {D : Ends} {σ : L2.St} {H : Hp} {bad : Bool} {Mid : L2.St → Hp → Prop} (h : Ans c σ H bad) (hy : bad = true → ∀ nx : L2.St → Hp → Prop, (∀ σ' H', Mid σ' H' → nx σ' H') → t1 { D with nx := nx } σ H)
    (hn : bad = false → ∀ nx : L2.St → Hp → Prop, (∀ σ' H', Mid σ' H' → nx σ' H') → t2 { D with nx := nx } σ H) (hm : ∀ σ' H', Mid σ' H' → D.nx σ' H') : tIfS c t1 t2 D σ H := by
  cases bad
  · exact st_no h (hn rfl D.nx hm)
  · exact st_yes h (hy rfl D.nx hm)
theorem found_push {H Ht : Hp} {l y t : Addr} {items zs : List V} {u : Val} {ss : List Stp} {st : Stp} (s : Same H Ht) (hl : H l = none) (h1 : Ht l = some (.lst items)) (h2 : Ht y = some (.lst zs)) (hne : y ≠ l) (p : Paired (StepAt Ht u) items ss)
    (x : StepAt Ht u (.ref t) st) : Same H (upd Ht l (.lst (items ++ [.ref t]))) ∧ (upd Ht l (.lst (items ++ [.ref t]))) y = some (.lst zs) ∧ (upd Ht l (.lst (items ++ [.ref t]))) l = some (.lst (items ++ [.ref t])) ∧
    Paired (StepAt (upd Ht l (.lst (items ++ [.ref t]))) u) (items ++ [.ref t]) (ss ++ [st]) := by
  have sT : SameT Ht (upd Ht l (.lst (items ++ [.ref t]))) := sameT_upd h1 fun xs z => by cases z
  exact ⟨same_upd s hl, by rw [upd_ne hne]; exact h2, upd_same, Paired.snoc (pairedStep_keepT p sT) (x.keepT sT)⟩
theorem at_m2 {L : Nat} (h : 3 ≤ L) (own ot : Int) : atI ([V.int own] ++ (strCols L own ot).map V.int) (-2) = some (V.int (altC own ot (L - 2))) := by
  have hl : ([V.int own] ++ (strCols L own ot).map V.int).length = L := by
    unfold strCols
    rw [List.length_append, List.length_map, List.length_map, List.length_range, List.length_singleton]
    omega
  have e : ixN ([V.int own] ++ (strCols L own ot).map V.int).length (-2) = some (L - 2) := by
    unfold ixN
    rw [hl, if_neg (by decide), if_pos (by omega)]
    congr 1
    omega
  unfold atI
  rw [e]
  show ([V.int own] ++ (strCols L own ot).map V.int)[L - 2]? = _
  rw [List.getElem?_append_right (by simp; omega)]
  unfold strCols
  rw [List.getElem?_map, List.getElem?_map, List.getElem?_range (by simp; omega)]
  simp
  congr 1
  omega
theorem at_m1 {L : Nat} (h : 3 ≤ L) (own ot : Int) : atI ((strCols L own ot).map V.int) (-1) = some (V.int (altC own ot (L - 1))) := by
  have hl : ((strCols L own ot).map V.int).length = L - 1 := by
    unfold strCols
    rw [List.length_map, List.length_map, List.length_range]
  have e : ixN ((strCols L own ot).map V.int).length (-1) = some (L - 2) := by
    unfold ixN
    rw [hl, if_neg (by decide), if_pos (by omega)]
    congr 1
    omega
  unfold atI
  rw [e]
  show ((strCols L own ot).map V.int)[L - 2]? = _
  unfold strCols
  rw [List.getElem?_map, List.getElem?_map, List.getElem?_range (by omega)]
  simp
  congr 1
  omega
theorem stepsO_len {T : Tb} (b last : Nat) (first : Option Int) (place : Nat) (k : KK) (other : Int) : (T.lens last place).length ≤ T.longest := by
  unfold Tb.lens
  rw [List.length_range']
  omega
section
variable {P : Program} {w : World} {K : PySem.W.Frag} {mg : Str → Option Value} {base : Heap} {CC CT : Addr}
def spFurther (CC CT : Addr) : Sp := fun vs H Q _ => ∃ (a kb : Addr) (T : Tb) (ring : Bool) (lst b p : Nat) (k : KK) (v : V) (u : Val) (first : Option Int), vs = [.ref a, .int b, .int p, .ref kb, v, oV first] ∧
  TabAt CC CT H a T ring (some lst) ∧ TabW T ∧ p < lst ∧ lst ≤ 10 ∧ b ≤ 10 ∧ KeyAt H k kb ∧ ValAt H v u ∧ u.2.length ≤ 100 ∧
  ∀ H' l items, Same H H' → H l = none → H' l = some (.lst items) → Paired (StepAt H' u) items (T.steps b lst first p k) → Q (.ref l) H'
theorem scFurther : FnScope ["self", "begin", "place", "key", "value", "first", "before", "own", "cell", "left", "found", "there", "other", "price", "length", "told", "fresh"] ["self", "begin", "place", "key", "value", "first"] (defScope sFurther) := ⟨rfl, rfl, rfl, by decide +kernel, rfl, by decide +kernel, by decide +kernel⟩
theorem ok_further {f : Addr} {fd : FuncData} (F : Fun K "further" "Table.further" sFurther f fd) (T : Txt K mg CC CT) (M : Meths P w K mg base CC) (DS : MFn P w K mg base CT 1 "suits" ["self", "cell", "colour"] (spSuits CC CT))
    (DI : MFn P w K mg base CT 1 "is_still" ["self", "cell", "before", "own", "behind"] (spStill CC CT)) (DR : MFn P w K mg base CT 2 "stretch" ["self", "begin", "place", "length", "own", "other"] (spStretch CC CT)) :
    FnOk P w K mg base CX0 3 f fd ["self", "begin", "place", "key", "value", "first"] (spFurther CC CT) := by
  obtain ⟨fex, dex, Gex, mex, bex⟩ := M.ex
  obtain ⟨fsu, dsu, Gsu, msu, bsu⟩ := DS
  obtain ⟨fst, dst, Gst, mst, bst⟩ := DI
  obtain ⟨fsr, dsr, Gsr, msr, bsr⟩ := DR
  refine F.ok scFurther (fun vs H Q E h => ?_) (fun cdv A outer s H vs Q E hr h => ?_)
  · obtain ⟨a, kb, T', ring, lst, b, p, k, v, u, first, rfl, _⟩ := h
    rfl
  · obtain ⟨a, kb, T', ring, lst, b, p, k, v, u, first, rfl, hT, W, hp, hlst, hb, hk, hv, hu2, q⟩ := h
    have hu := hu_of hr
    have hr1 : Room 1 _ := hr.mono (by decide)
    have nd := scFurther.nd
    refine ⟨_, pss_cons (ps_asg (pv 3) (pg_tup (by rfl) (pgs_cons (pg_name (i := 6) nd rfl (Or.inl rfl)) (pgs_cons (pg_name (i := 7) nd rfl (Or.inl rfl)) pgs_nil))))
      (pss_cons (ps_par (i := 8) (j := 9) rfl nd rfl rfl (by decide) rfl rfl (pa_cons (pe_op op_mod (pe_op op_add (pv 1) (pv 2)) (pe_fld (pv 0) rfl)) (pa_cons (pe_op op_sub (pe_fld (pv 0) rfl) (pv 2)) pa_nil)) (by rfl))
      (pss_cons (ps_par (i := 10) (j := 11) rfl nd rfl rfl (by decide) rfl rfl (pa_cons (pe_lst pa_nil) (pa_cons (pe_op op_mod (pe_op op_add (pe_op op_add (pv 1) (pv 2)) pe_int) (pe_fld (pv 0) rfl)) pa_nil)) (by rfl))
      (pss_cons (ps_for PassesOwn.never rfl (pi_list (pe_callB (cr_sortedVI rfl hr.units) (by rfl) T.zSorted (by decide +kernel) (pa_cons (pe_keys (pe_ix ix_list (pe_fld (pv 0) rfl) (pv 11) (fun _ _ => rfl))) pa_nil))) (pg_name (i := 12) nd rfl (Or.inl rfl))
        (pss_one (ps_if (PW.pt (pw_or (pt_cmpR op_isN (pv 5) pe_non (nomark _)) (pw_or (pt_cmpR op_gt (pv 2) pe_int (nomark _)) (pw_or1 (pt_cmpR op_eq (pv 12) (pv 5) (nomark _))))))
          (pss_one (ps_if (pt_val (pe_meth (pv 0) T.clT mst Gst hr1 bst .nil pass0 (pa_cons (pv 8) (pa_cons (pv 6) (pa_cons (pv 7) (pa_cons (pv 12) pa_nil))))))
            (pss_cons (ps_if (pt_val (pe_meth (pv 0) T.clT msu Gsu hr1 bsu .nil pass0 (pa_cons (pv 11) (pa_cons (pv 12) pa_nil))))
              (pss_cons (ps_set (i := 13) nd rfl (Or.inl rfl) (pe_dget hu (pe_ix ix_list (pe_fld (pv 0) rfl) (pv 11) (fun _ _ => rfl)) (pv 12) (fun _ _ => rfl)))
              (pss_one (ps_expr (pe_bm PySem.F.plainAttrs_list PySem.F.slot_list_append PySem.F.type_list_append mt_append (pv 10)
                (pa_cons (pe_tup (pa_cons (pe_op op_add (pv 2) pe_int) (pa_cons (pe_tup (pa_cons (pv 7) (pa_cons (pv 12) pa_nil))) (pa_cons (pe_meth (pe_fld (pv 0) rfl) T.clC mex Gex hr1 bex .nil pass0 (pa_cons (pv 4) (pa_cons (pv 13) (pa_cons (pe_lst (pa_cons (pv 12) pa_nil)) pa_nil)))) pa_nil)))) pa_nil)))))
              pss_nil)
            (pss_one (ps_for PassesOwn.never rfl (pi_range2 (by rfl) T.zRange (pa_cons pe_int (pa_cons (pe_op op_add (pe_callB (call_min2 rfl) (by rfl) T.zMin (by decide +kernel) (pa_cons (pe_fld (pv 0) rfl) (pa_cons (pe_op op_add (pv 9) pe_int) pa_nil))) pe_int) pa_nil))) (pg_name (i := 14) nd rfl (Or.inl rfl))
              (pss_cons (ps_set (i := 15) nd rfl (Or.inl rfl) (pe_ifExp (pt_cmpR op_ne (pv 12) (pv 7) (nomark _)) (pe_meth (pv 0) T.clT msr Gsr hr bsr .nil pass0 (pa_cons (pv 1) (pa_cons (pv 2) (pa_cons (pv 14) (pa_cons (pv 7) (pa_cons (pv 12) pa_nil)))))) pe_non))
              (pss_one (ps_if (pt_cmpR op_notN (pv 15) pe_non (nomark _))
                (pss_cons (ps_set (i := 16) nd rfl (Or.inl rfl) (pe_tup (pa_cons (pe_ix ix_list (pe_op op_cat (pe_lst (pa_cons (pv 7) pa_nil)) (pe_ix ix_tup (pv 15) pe_int (fun _ _ => rfl))) (pe_un un_neg pe_int) (fun _ _ => rfl)) (pa_cons (pe_ix ix_list (pe_ix ix_tup (pv 15) pe_int (fun _ _ => rfl)) (pe_un un_neg pe_int) (fun _ _ => rfl)) pa_nil))))
                (pss_one (ps_expr (pe_bm PySem.F.plainAttrs_list PySem.F.slot_list_append PySem.F.type_list_append mt_append (pv 10)
                  (pa_cons (pe_tup (pa_cons (pe_op op_sub (pe_op op_add (pv 2) (pv 14)) pe_int) (pa_cons (pv 16) (pa_cons (pe_meth (pe_fld (pv 0) rfl) T.clC mex Gex hr1 bex .nil pass0 (pa_cons (pv 4) (pa_cons (pe_ix ix_tup (pv 15) pe_int (fun _ _ => rfl)) (pa_cons (pe_ix ix_tup (pv 15) pe_int (fun _ _ => rfl)) pa_nil)))) pa_nil)))) pa_nil)))))
                pss_nil))))))
            pss_nil))
          pss_nil)))
      (pss_one (ps_ret (pv 10)))))), ?_⟩
    obtain ⟨dx, fs, hd, cs, gl, sm, ha, ff, dd⟩ := id hT
    obtain ⟨cl, hcl, hcc⟩ := dd.costs
    have n0 : (0 : Int) < (T'.n : Int) := by have := W.n0; omega
    have hn2 : T'.cell b (p + 1) < T'.n := Nat.mod_lt _ W.n0
    obtain ⟨c, hc, hC⟩ := hcc _ hn2
    obtain ⟨d, kvs, ns, rfl, hdd, hkv, hperm, _⟩ := hC.ex
    have e1 : ((b : Int) + (p : Int)) % (T'.n : Int) = ((T'.cell b p : Nat) : Int) := rfl
    have e2 : ((b : Int) + (p : Int) + 1) % (T'.n : Int) = ((T'.cell b (p + 1) : Nat) : Int) := by
      rw [← cellV]
      congr 1
    have e3 : (lst : Int) - (p : Int) = ((lst - p : Nat) : Int) := by omega
    refine ⟨_, rfl, kb, _, rfl, SqT.of hk, rfl, _, _, rfl, _, _, rfl, rfl, ?_⟩
    refine ⟨_, rfl, _, rfl, _, _, rfl, rfl, _, rfl, a, CT, dx, _, _, rfl, ha, T.clT, T.nMany, ff.many, _, _, rfl, rfl, n0, _, rfl, a, CT, dx, _, _, rfl, ha, T.clT, T.nLast, ff.last _ rfl, _, rfl, _, _, rfl, rfl, _, _, rfl, ?_⟩
    dsimp only
    rw [e1, e3]
    refine ⟨Nat.zero_le _, fun l hl => ?_⟩
    have s1 : Same H (upd H l (.lst [])) := same_new hl
    refine ⟨_, rfl, _, rfl, _, _, rfl, rfl, _, _, rfl, rfl, _, rfl, a, CT, dx, _, _, rfl, s1 _ _ ha, T.clT, T.nMany, ff.many, _, _, rfl, rfl, n0, _, _, rfl, ?_⟩
    dsimp only
    rw [e2]
    refine ⟨_, rfl, a, CT, dx, _, _, rfl, s1 _ _ ha, T.clT, T.nCosts, ff.costs, _, rfl, cs, _, _, _, rfl, rfl, SqL.of (s1 _ _ hcl), atI_nat hc, d, rfl, .inl ⟨kvs, s1 _ _ hdd⟩, fun z hz => ?_⟩
    have s2 := same_new (o := VW z d) hz
    refine ⟨z, d, kvs, ns, rfl, upd_same, s2 _ _ (s1 _ _ hdd), hkv, fun ns' y perm srt hy => ?_⟩
    have s3 := same_new (o := HO.lst (ns'.map V.int)) hy
    have ens : ns' = T'.dom (T'.cell b (p + 1)) := sorted_eq (perm.trans hperm) srt (W.srt _)
    have hyl : y ≠ l := fun e => by
      rw [e] at hy
      rw [s2 _ _ upd_same] at hy
      cases hy
    have h00 := (s1.trans s2).trans s3
    refine ⟨y, rfl, ⟨_, SqL.of upd_same⟩, for_list (K := K) (a := y) (xs := ns'.map V.int) (fun i σ H1 => ∃ (y12 y13 y14 y15 y16 : Option V) (items : List V), σ = [some (.ref a), some (.int b), some (.int p), some (.ref kb), some v, some (oV first), some (oV k.1), some (.int k.2),
        some (.int ((T'.cell b p : Nat) : Int)), some (.int ((lst - p : Nat) : Int)), some (.ref l), some (.int ((T'.cell b (p + 1) : Nat) : Int)), y12, y13, y14, y15, y16] ∧ Same H H1 ∧ H1 y = some (.lst (ns'.map V.int)) ∧ H1 l = some (.lst items) ∧
        Paired (StepAt H1 u) items ((ns'.take i).flatMap (T'.stepsO b lst first p k)) ∧ items.length ≤ 20 * i)
      ⟨_, _, _, _, _, [], rfl, h00, upd_same, s3 _ _ (s2 _ _ upd_same), .nil, Nat.zero_le _⟩ (fun i σ H1 _ ⟨_, _, _, _, _, _, _, _, hy1, _⟩ => SqL.of hy1) ?_ ?_⟩
    · rintro i ov σ H1 hi ⟨y12, y13, y14, y15, y16, items, rfl, t1, hy1, hl1, hpr, hlen⟩
      obtain ⟨ot, hot, rfl⟩ : ∃ ot, ns'[i]? = some ot ∧ ov = V.int ot := by
        rw [List.getElem?_map] at hi
        cases e : ns'[i]? with
        | none => rw [e] at hi; cases hi
        | some ot => rw [e] at hi; exact ⟨ot, rfl, (Option.some.inj hi).symm⟩
      have hi3 : i < 3 := by
        have := (List.getElem?_eq_some_iff.mp hot).1
        rw [ens] at this
        exact Nat.lt_of_lt_of_le this (W.dln _)
      have hmem : ot ∈ T'.dom (T'.cell b (p + 1)) := by rw [← ens]; exact List.mem_of_getElem? hot
      have htake : (ns'.take (i + 1)).flatMap (T'.stepsO b lst first p k) = (ns'.take i).flatMap (T'.stepsO b lst first p k) ++ T'.stepsO b lst first p k ot := by
        rw [List.take_succ, hot, List.flatMap_append]
        simp
      have hT1 := hT.keep t1
      have ha1 := t1 _ _ ha
      have hcl1 := t1 _ _ hcl
      have hdd1 := t1 _ _ hdd
      have hv1 := hv.keep t1
      obtain ⟨d', kvs', e', hdd', hval⟩ := hC.get ot
      cases e'
      rw [hdd] at hdd'
      cases hdd'
      rw [if_pos hmem] at hval
      rw [show (gName 12) = (gName 12) from rfl]
      dsimp only [gName]
      refine st_if2 (bad := (first == none || decide (0 < p) || first == some ot)) ?_ (fun hb1 => ?_) (fun hb1 => ?_)
      · cases first with
        | none => exact ans_or1 fun R q => ⟨_, rfl, rfl, _, rfl, q⟩
        | some fz =>
          rw [show (((some fz : Option Int) == none) || decide (0 < p) || (some fz == some ot)) = (decide (0 < p) || (some fz == some ot)) from rfl]
          refine ans_or (fun R q => ⟨_, rfl, rfl, _, rfl, q⟩) (ans_or2 (fun R q => ?_) (fun R q => ?_))
          · refine ⟨_, rfl, _, _, rfl, rfl, _, rfl, ?_⟩
            have : decide ((0 : Int) < (p : Int)) = decide (0 < p) := by
              by_cases z : 0 < p
              · rw [decide_eq_true z, decide_eq_true (by omega)]
              · rw [decide_eq_false z, decide_eq_false (by omega)]
            rw [this]
            exact q
          · refine ⟨_, rfl, _, rfl, rfl, _, rfl, ?_⟩
            have : decide (V.int ot = V.int fz) = (some fz == some ot) := by
              rw [dec_int]
              exact Bool.beq_comm
            show R (decide (V.int ot = V.int fz)) H1
            rw [this]
            exact q
      · refine st_if2 (bad := T'.still (T'.cell b p) k.1 k.2 ot) (fun R q => ?_) (fun hb2 => ?_) (fun hb2 => ?_)
        · exact ⟨_, rfl, a, dx, _, rfl, ha1, ff.no _ (by decide +kernel), _, rfl, _, rfl, _, rfl, _, rfl, a, T', ring, _, T'.cell b p, k.1, k.2, ot, rfl, hT1, Nat.mod_lt _ W.n0, _, rfl, q⟩
        · have hO : T'.stepsO b lst first p k ot = T'.steps1 b p k ot ++ (T'.lens lst p).flatMap (T'.stepsL b p k ot) := by
            unfold Tb.stepsO
            rw [hb1, hb2]
            rfl
          obtain ⟨sx, hsm⟩ := dd.sums
          dsimp only [tSeq]
          refine st_if_mid (bad := T'.suits (T'.cell b (p + 1)) ot) (Mid := fun σ H2 => ∃ (y13 y14 y15 y16 : Option V) (items' : List V), σ = [some (.ref a), some (.int b), some (.int p), some (.ref kb), some v, some (oV first), some (oV k.1), some (.int k.2),
              some (.int ((T'.cell b p : Nat) : Int)), some (.int ((lst - p : Nat) : Int)), some (.ref l), some (.int ((T'.cell b (p + 1) : Nat) : Int)), some (.int ot), y13, y14, y15, y16] ∧ Same H H2 ∧ H2 y = some (.lst (ns'.map V.int)) ∧ H2 l = some (.lst items') ∧
              Paired (StepAt H2 u) items' ((ns'.take i).flatMap (T'.stepsO b lst first p k) ++ T'.steps1 b p k ot) ∧ items'.length ≤ 20 * i + 1) (fun R q => ?_) (fun hs nx kk => ?_) (fun hs nx kk => ?_) ?_
          · exact ⟨_, rfl, a, dx, _, rfl, ha1, ff.no _ (by decide +kernel), _, rfl, _, rfl, a, T', ring, _, T'.cell b (p + 1), ot, rfl, hT1, hn2, _, rfl, q⟩
          · have hget : DGet H1 d (.int ot) (some (.int (T'.price (T'.cell b (p + 1)) ot))) := by
              have := DGet.k (k := Sum.inl ot) hdd1
              rw [hval] at this
              exact this
            refine ⟨_, rfl, a, CT, dx, _, _, rfl, ha1, T.clT, T.nCosts, ff.costs, _, rfl, cs, _, _, _, rfl, rfl, SqL.of hcl1, atI_nat hc, _, rfl, d, _, rfl, hget, ?_⟩
            refine ⟨_, rfl, .inl ⟨rfl, _, SqL.of hl1⟩, _, rfl, _, _, rfl, rfl, _, rfl, _, rfl, (by show 2 ≤ sizeLine; decide), fun ta hta => ?_⟩
            have q1 := same_new (o := HO.tup [V.int k.2, V.int ot]) hta
            refine ⟨_, rfl, a, CT, dx, _, _, rfl, q1 _ _ ha1, T.clT, T.nSums, ff.sums, sm, sx, _, rfl, q1 _ _ (t1 _ _ hsm), rfl, _, rfl, _, rfl, _, rfl, (by show 1 ≤ sizeLine; decide), fun lb hlb => ?_⟩
            have q2 := same_new (o := HO.lst [V.int ot]) hlb
            refine ⟨sm, lb, v, u, _, [ot], rfl, (hv1.keep q1).keep q2, SqL.of upd_same, by omega, (by show 1 ≤ 1000; decide), fun H3 x q3 hx => ?_⟩
            refine ⟨(by show 3 ≤ sizeLine; decide), fun tc htc => ?_⟩
            have q4 := same_new (o := HO.tup [V.int ((p : Int) + 1), V.ref ta, x]) htc
            have qq := ((q1.trans q2).trans q3).trans q4
            refine ⟨l, _, _, rfl, rfl, qq _ _ hl1, small1000 (by omega), ?_⟩
            obtain ⟨r1, r2, r3, r4⟩ := found_push (st := ⟨p + 1, (some k.2, ot), T'.price (T'.cell b (p + 1)) ot, [ot]⟩) (t1.trans qq) hl (qq _ _ hl1) (qq _ _ hy1) hyl (pairedStep_keepT hpr (same_t qq))
              ⟨tc, ta, x, rfl, upd_same, ((q2.trans q3).trans q4) _ _ upd_same, hx.keep q4⟩
            refine kk _ _ ⟨_, _, _, _, _, rfl, r1, r2, r3, ?_, by rw [List.length_append, List.length_singleton]; omega⟩
            have e6 : T'.steps1 b p k ot = [⟨p + 1, (some k.2, ot), T'.price (T'.cell b (p + 1)) ot, [ot]⟩] := by
              unfold Tb.steps1
              rw [hs]
              rfl
            rw [e6]
            exact r4
          · refine kk _ _ ⟨_, _, _, _, items, rfl, t1, hy1, hl1, ?_, by omega⟩
            have e6 : T'.steps1 b p k ot = [] := by
              unfold Tb.steps1
              rw [hs]
              rfl
            rw [e6, List.append_nil]
            exact hpr
          · rintro σ H2 ⟨y13, y14, y15, y16, items', rfl, t2, hy2, hl2, hpr2, hlen2⟩
            have ha2 := t2 _ _ ha
            have hm : ((if ((lst - p : Nat) : Int) + 1 < (T'.longest : Int) then ((lst - p : Nat) : Int) + 1 else (T'.longest : Int)) + 1 - 3).toNat = min T'.longest (lst - p + 1) + 1 - 3 := by
              split <;> omega
            have hlg : T'.longest ≤ 7 := by have := W.lg; have := W.n6; omega
            have hmb : (if ((lst - p : Nat) : Int) + 1 < (T'.longest : Int) then ((lst - p : Nat) : Int) + 1 else (T'.longest : Int)) ≤ 100 ∧ 0 ≤ (if ((lst - p : Nat) : Int) + 1 < (T'.longest : Int) then ((lst - p : Nat) : Int) + 1 else (T'.longest : Int)) := by
              split <;> omega
            refine ⟨_, rfl, a, CT, dx, _, _, rfl, ha2, T.clT, T.nLongest, ff.longest, _, rfl, _, _, rfl, rfl, _, _, rfl, _, _, rfl, rfl, _, _, rfl, ⟨by decide, by decide, by omega, by omega⟩, ?_⟩
            refine for_range (lo := 3) (n := ((if ((lst - p : Nat) : Int) + 1 < (T'.longest : Int) then ((lst - p : Nat) : Int) + 1 else (T'.longest : Int)) + 1 - 3).toNat) (fun j σ H2 => ∃ (y13 y14 y15 y16 : Option V) (items' : List V), σ = [some (.ref a), some (.int b), some (.int p), some (.ref kb), some v, some (oV first), some (oV k.1), some (.int k.2),
                some (.int ((T'.cell b p : Nat) : Int)), some (.int ((lst - p : Nat) : Int)), some (.ref l), some (.int ((T'.cell b (p + 1) : Nat) : Int)), some (.int ot), y13, y14, y15, y16] ∧ Same H H2 ∧ H2 y = some (.lst (ns'.map V.int)) ∧ H2 l = some (.lst items') ∧
                Paired (StepAt H2 u) items' (((ns'.take i).flatMap (T'.stepsO b lst first p k) ++ T'.steps1 b p k ot) ++ (List.range j).flatMap (fun j => T'.stepsL b p k ot (3 + j))) ∧ items'.length ≤ 20 * i + 1 + j) ?_ ?_ ?_
            · exact ⟨_, _, _, _, items', rfl, t2, hy2, hl2, by rw [List.range_zero, List.flatMap_nil, List.append_nil]; exact hpr2, hlen2⟩
            · rintro j σ H3 hj ⟨z13, z14, z15, z16, items3, rfl, t3, hy3, hl3, hpr3, hlen3⟩
              rw [hm] at hj
              have ha3 := t3 _ _ ha
              have hjj : (3 : Int) + (j : Int) = ((3 + j : Nat) : Int) := by omega
              have hnext : (List.range (j + 1)).flatMap (fun j => T'.stepsL b p k ot (3 + j)) = (List.range j).flatMap (fun j => T'.stepsL b p k ot (3 + j)) ++ T'.stepsL b p k ot (3 + j) := by
                rw [List.range_succ, List.flatMap_append]
                simp
              rw [hjj]
              refine ⟨_, rfl, _, rfl, rfl, _, rfl, ?_⟩
              by_cases eo : ot = k.2
              · refine iteE (by rw [eo]; simp) ?_
                refine ⟨_, rfl, rfl, _, rfl, iteE rfl ?_⟩
                have : T'.stepsL b p k ot (3 + j) = [] := by
                  unfold Tb.stepsL
                  rw [if_neg (by simp [eo])]
                rw [this, List.append_nil] at hnext
                exact ⟨_, _, _, _, items3, rfl, t3, hy3, hl3, by rw [hnext]; exact hpr3, by omega⟩
              · refine iteY (by simp [eo]) ?_
                refine ⟨_, rfl, a, dx, _, rfl, ha3, ff.no _ (by decide +kernel), _, rfl, _, rfl, _, rfl, _, rfl, _, rfl, a, T', ring, _, b, p, 3 + j, k.2, ot, rfl, hT.keep t3, W, by omega, by omega, fun hF H4 q3 => ?_, fun hS H4 t lc q3 ht hlc => ?_⟩
                · refine ⟨_, rfl, rfl, _, rfl, iteE rfl ?_⟩
                  have : T'.stepsL b p k ot (3 + j) = [] := by
                    unfold Tb.stepsL
                    rw [if_neg (by simp [hF])]
                  rw [this, List.append_nil] at hnext
                  refine ⟨_, _, _, _, items3, rfl, t3.trans q3, q3 _ _ hy3, q3 _ _ hl3, ?_, by omega⟩
                  rw [hnext]
                  exact pairedStep_keepT hpr3 (same_t q3)
                · refine ⟨_, rfl, rfl, _, rfl, iteY rfl ?_⟩
                  have hlenS : (strCols (3 + j) k.2 ot).length = 2 + j := by
                    unfold strCols
                    rw [List.length_map, List.length_range]
                    omega
                  -- fresh
                  refine ⟨_, rfl, (by show 1 ≤ sizeLine; decide), fun l3 hl3' => ?_⟩
                  have q4 := same_new (o := HO.lst [V.int k.2]) hl3'
                  refine ⟨_, rfl, t, _, _, _, rfl, rfl, SqT.of (q4 _ _ ht), rfl, l3, lc, _, _, rfl, rfl, upd_same, q4 _ _ hlc, (by rw [List.length_map, hlenS]; exact line1000 (by show 1 + (2 + j) ≤ 1000000; omega)), fun l4 hl4' => ?_⟩
                  have q5 := same_new (o := HO.lst ([V.int k.2] ++ (strCols (3 + j) k.2 ot).map V.int)) hl4'
                  refine ⟨_, rfl, l4, _, _, _, rfl, rfl, SqL.of upd_same, at_m2 (by omega) k.2 ot, ?_⟩
                  refine ⟨_, rfl, t, _, _, _, rfl, rfl, SqT.of (q5 _ _ (q4 _ _ ht)), rfl, _, rfl, lc, _, _, _, rfl, rfl, SqL.of (q5 _ _ (q4 _ _ hlc)), at_m1 (by omega) k.2 ot, (by show 2 ≤ sizeLine; decide), fun ta hta => ?_⟩
                  have q6 := same_new (o := HO.tup [V.int (altC k.2 ot (3 + j - 2)), V.int (altC k.2 ot (3 + j - 1))]) hta
                  have q36 := ((q3.trans q4).trans q5).trans q6
                  have q46 := (q4.trans q5).trans q6
                  refine ⟨_, rfl, .inl ⟨rfl, _, SqL.of (q36 _ _ hl3)⟩, _, rfl, _, rfl, _, _, rfl, rfl, _, _, rfl, rfl, _, rfl, ?_⟩
                  refine ⟨_, rfl, a, CT, dx, _, _, rfl, q36 _ _ ha3, T.clT, T.nSums, ff.sums, sm, sx, _, rfl, q36 _ _ (t3 _ _ hsm), rfl, _, rfl, _, rfl, t, _, _, _, rfl, rfl, SqT.of (q46 _ _ ht), rfl, _, rfl, t, _, _, _, rfl, rfl, SqT.of (q46 _ _ ht), rfl, ?_⟩
                  refine ⟨sm, lc, v, u, _, strCols (3 + j) k.2 ot, rfl, hv.keep (t3.trans q36), SqL.of (q46 _ _ hlc), by omega, by omega, fun H5 x q7 hx => ?_⟩
                  refine ⟨(by show 3 ≤ sizeLine; decide), fun tc htc => ?_⟩
                  have q8 := same_new (o := HO.tup [V.int ((p : Int) + ((3 + j : Nat) : Int) - 1), V.ref ta, x]) htc
                  have qq := (q36.trans q7).trans q8
                  refine ⟨l, _, _, rfl, rfl, qq _ _ hl3, small1000 (by omega), ?_⟩
                  have epj : (p : Int) + ((3 + j : Nat) : Int) - 1 = ((p + (3 + j) - 1 : Nat) : Int) := by omega
                  obtain ⟨r1, r2, r3, r4⟩ := found_push (st := T'.stepL b p k ot (3 + j)) (t3.trans qq) hl (qq _ _ hl3) (qq _ _ hy3) hyl (pairedStep_keepT hpr3 (same_t qq))
                    ⟨tc, ta, x, rfl, by rw [upd_same, epj]; rfl, (q7.trans q8) _ _ upd_same, hx.keep q8⟩
                  refine ⟨_, _, _, _, _, rfl, r1, r2, r3, ?_, by rw [List.length_append, List.length_singleton]; omega⟩
                  have e6 : T'.stepsL b p k ot (3 + j) = [T'.stepL b p k ot (3 + j)] := by
                    unfold Tb.stepsL
                    rw [if_pos (by simp [eo, hS])]
                  rw [hnext, e6, ← List.append_assoc]
                  exact r4
            · rintro σ H3 ⟨z13, z14, z15, z16, items3, rfl, t3, hy3, hl3, hpr3, hlen3⟩
              rw [hm] at hpr3 hlen3
              refine ⟨_, _, _, _, _, items3, rfl, t3, hy3, hl3, ?_, by omega⟩
              rw [htake, hO, ← List.append_assoc]
              have : (T'.lens lst p).flatMap (T'.stepsL b p k ot) = (List.range (min T'.longest (lst - p + 1) + 1 - 3)).flatMap (fun j => T'.stepsL b p k ot (3 + j)) := by
                unfold Tb.lens
                rw [List.range'_eq_map_range, List.flatMap_map]
              rw [this]
              exact hpr3
        · have : T'.stepsO b lst first p k ot = [] := by
            unfold Tb.stepsO
            rw [hb1, hb2]
            rfl
          rw [this, List.append_nil] at htake
          refine ⟨_, _, _, _, _, items, rfl, t1, hy1, hl1, ?_, by omega⟩
          rw [htake]; exact hpr
      · have : T'.stepsO b lst first p k ot = [] := by
          unfold Tb.stepsO
          rw [hb1]
          rfl
        rw [this, List.append_nil] at htake
        refine ⟨_, _, _, _, _, items, rfl, t1, hy1, hl1, ?_, by omega⟩
        rw [htake]; exact hpr
    · rintro σ H1 ⟨y12, y13, y14, y15, y16, items, rfl, t1, hy1, hl1, hpr, hlen⟩
      refine ⟨_, rfl, q H1 l items t1 hl hl1 ?_⟩
      rw [List.length_map, List.take_length, ens] at hpr
      exact hpr
end
end Flk

set_option Elab.async false
set_option linter.all false
set_option maxRecDepth 100000
set_option maxHeartbeats 4000000
/-! The walk, 5: the rows' dicts; put, joined. -/
namespace Flk
open PySem PySem.Spec PyProof.Rows L2
def OkK (k : KK) : Prop := (∀ i, k.1 = some i → 0 ≤ i ∧ i < 3) ∧ 0 ≤ k.2 ∧ k.2 < 3
theorem OkK.small {k : KK} (h : OkK k) : SmallK k := ⟨fun i e => by have := h.1 i e; omega, by have := h.2; omega⟩
def codeO : Option Int → Nat
  | none => 0
  | some i => Int.toNat i + 1
def codeK (k : KK) : Nat := codeO k.1 * 3 + Int.toNat k.2
theorem codeO_lt {o : Option Int} (h : ∀ i, o = some i → 0 ≤ i ∧ i < 3) : codeO o < 4 := by
  cases o with
  | none => exact Nat.zero_lt_succ _
  | some i =>
    have h1 := h i rfl
    show Int.toNat i + 1 < 4
    omega
theorem codeO_inj {o o' : Option Int} (h : ∀ i, o = some i → 0 ≤ i ∧ i < 3) (h' : ∀ i, o' = some i → 0 ≤ i ∧ i < 3) (e : codeO o = codeO o') : o = o' := by
  cases o with
  | none =>
    cases o' with
    | none => rfl
    | some i => exact absurd e (Nat.ne_of_lt (Nat.succ_pos _))
  | some i =>
    cases o' with
    | none => exact absurd e.symm (Nat.ne_of_lt (Nat.succ_pos _))
    | some i' =>
      have h1 := h i rfl
      have h1' := h' i' rfl
      have e : Int.toNat i + 1 = Int.toNat i' + 1 := e
      have : i = i' := by omega
      rw [this]
theorem codeK_lt {k : KK} (h : OkK k) : codeK k < 12 := by
  have h1 := codeO_lt h.1
  have h2 := h.2
  unfold codeK
  omega
theorem codeK_inj {k j : KK} (h : OkK k) (h' : OkK j) (e : codeK k = codeK j) : k = j := by
  have h2 := h.2
  have h2' := h'.2
  unfold codeK at e
  have e1 : codeO k.1 = codeO j.1 := by omega
  have e2 : k.2 = j.2 := by omega
  have e3 := codeO_inj h.1 h'.1 e1
  obtain ⟨a, c⟩ := k
  obtain ⟨a', c'⟩ := j
  simp only at e2 e3
  rw [e2, e3]
theorem nodup_bound : ∀ (n : Nat) (l : List Nat), l.Nodup → (∀ x ∈ l, x < n) → l.length ≤ n
  | 0, l, _, h => by
    cases l with
    | nil => exact Nat.le_refl _
    | cons a l => exact absurd (h a List.mem_cons_self) (Nat.not_lt_zero _)
  | n + 1, l, nd, h => by
    have h1 := nodup_bound n (l.erase n) (nd.erase n) fun x hx => by
      have hm := (List.Nodup.mem_erase_iff nd).mp hx
      have := h x hm.2
      have hn : x ≠ n := hm.1
      omega
    by_cases hn : n ∈ l
    · rw [List.length_erase_of_mem hn] at h1; omega
    · rw [List.erase_of_not_mem hn] at h1; omega
theorem keys_bound {es : List DE} (nd : (es.map (·.1)).Nodup) (ok : ∀ e ∈ es, OkK e.1) : es.length ≤ 12 := by
  have := nodup_bound 12 ((es.map (·.1)).map codeK) ?_ ?_
  · simpa using this
  · rw [List.nodup_iff_pairwise_ne, List.pairwise_map]
    rw [List.nodup_iff_pairwise_ne] at nd
    refine List.Pairwise.imp_of_mem ?_ nd
    intro a b ha hb hne e
    obtain ⟨x, hx, rfl⟩ := List.mem_map.mp ha
    obtain ⟨y, hy, rfl⟩ := List.mem_map.mp hb
    exact hne (codeK_inj (ok x hx) (ok y hy) e)
  · intro x hx
    obtain ⟨k, hk, rfl⟩ := List.mem_map.mp hx
    obtain ⟨e, he, rfl⟩ := List.mem_map.mp hk
    exact codeK_lt (ok e he)
def OptAt (H : Hp) (o : Option V) (r : Option Val) : Prop := match o, r with
  | some x, some v => ValAt H x v
  | none, none => True
  | _, _ => False
theorem OptAt.keepT {H H' : Hp} {o : Option V} {r : Option Val} (h : OptAt H o r) (s : SameT H H') : OptAt H' o r := by
  cases o <;> cases r
  · exact h
  · exact h
  · exact h
  · exact ValAt.keepT h s
structure EsOk (H : Hp) (es : List DE) (f : KK → Option Val) : Prop where
  keys : KeysAt H es
  nd : (es.map (·.1)).Nodup
  ok : ∀ e ∈ es, OkK e.1
  at_ : ∀ k, OptAt H (lookE es k) (f k)
theorem EsOk.keepT {H H' : Hp} {es : List DE} {f : KK → Option Val} (h : EsOk H es f) (s : SameT H H') : EsOk H' es f := ⟨h.keys.keep fun b xs e => s b xs e, h.nd, h.ok, fun k => (h.at_ k).keepT s⟩
theorem EsOk.get {H : Hp} {es : List DE} {f : KK → Option Val} (h : EsOk H es f) {k : KK} {v : Val} (e : f k = some v) : ∃ x, lookE es k = some x ∧ ValAt H x v := by
  have := h.at_ k
  rw [e] at this
  cases q : lookE es k with
  | none => rw [q] at this; exact this.elim
  | some x => rw [q] at this; exact ⟨x, rfl, this⟩
theorem EsOk.mem {H : Hp} {es : List DE} {f : KK → Option Val} (h : EsOk H es f) {e : DE} (he : e ∈ es) : ∃ v, f e.1 = some v ∧ ValAt H e.2.2 v := by
  have := h.at_ e.1
  rw [lookE_of h.nd he] at this
  cases q : f e.1 with
  | none => rw [q] at this; exact this.elim
  | some v => rw [q] at this; exact ⟨v, rfl, this⟩
theorem EsOk.has {H : Hp} {es : List DE} {f : KK → Option Val} (h : EsOk H es f) {k : KK} {v : Val} (e : f k = some v) : ∃ x ∈ es, x.1 = k := by
  obtain ⟨x, hx, _⟩ := h.get e
  obtain ⟨e, he, hk, _⟩ := lookE_mem hx
  exact ⟨e, he, hk⟩
theorem EsOk.put {H : Hp} {es : List DE} {f : KK → Option Val} (h : EsOk H es f) {k : KK} {b : Addr} {x : V} {v : Val} (hk : KeyAt H k b) (ok : OkK k) (hx : ValAt H x v) : EsOk H (putE es k b x) (fun j => if j = k then some v else f j) := by
  refine ⟨putE_keys h.keys hk, putE_nodup h.nd, fun e he => ?_, fun j => ?_⟩
  · rcases putE_mem he with ⟨q, _⟩ | q
    · rw [q]; exact ok
    · exact h.ok e q
  · rw [lookE_put]
    by_cases e : j = k
    · rw [if_pos e, if_pos e]; exact hx
    · rw [if_neg e, if_neg e]; exact h.at_ j
def putF1 (f : KK → Option Val) (k : KK) (v : Val) : KK → Option Val := fun j => if j = k then some (match f k with | none => v | some a => vmin a v) else f j
def RowAt (P : Program) (w : World) (H : Hp) (d : Addr) (f : KK → Option Val) : Prop := ∃ es, H d = some (DN P w d es) ∧ EsOk H es f
/-- what the rows of a Table are -/
structure Rws (P : Program) (w : World) (H : Hp) (r : Addr) (ds : List Addr) (R : Tabs) : Prop where
  lst : H r = some (.lst (ds.map V.ref))
  nd : ds.Nodup
  row : ∀ i d, ds[i]? = some d → RowAt P w H d (R i)
theorem RowAt.keep {P : Program} {w : World} {H H' : Hp} {d : Addr} {f : KK → Option Val} (h : RowAt P w H d f) (s : Same H H') : RowAt P w H' d f := by
  obtain ⟨es, h1, h2⟩ := h
  exact ⟨es, s _ _ h1, h2.keepT (same_t s)⟩
theorem Rws.keep {P : Program} {w : World} {H H' : Hp} {r : Addr} {ds : List Addr} {R : Tabs} (h : Rws P w H r ds R) (s : Same H H') : Rws P w H' r ds R := ⟨s _ _ h.lst, h.nd, fun i d e => (h.row i d e).keep s⟩
theorem sameX_t {P : Program} {w : World} {d : Addr} {es : List DE} {H H' : Hp} (s : SameX d H H') (e : H d = some (DN P w d es)) : SameT H H' := fun b xs h => s b _ (ne_of h e (by intro z; cases z)) h
theorem putR_row {R : Tabs} {q : Nat} {k : KK} {v : Val} : putR R q k v q = putF1 (R q) k v := by
  funext j
  unfold putR putF1
  by_cases e : j = k
  · rw [if_pos ⟨rfl, e⟩, if_pos e] <;> rfl
  · rw [if_neg (fun z => e z.2), if_neg e]
theorem putR_other {R : Tabs} {q p : Nat} {k : KK} {v : Val} (h : p ≠ q) : putR R q k v p = R p := by
  funext j
  unfold putR
  rw [if_neg (fun z => h z.1)]
theorem Rws.put {P : Program} {w : World} {H H' : Hp} {r d : Addr} {ds : List Addr} {R R' : Tabs} {q : Nat} (h : Rws P w H r ds R) (hd : ds[q]? = some d) (s : SameX d H H') (hr : RowAt P w H' d (R' q)) (ho : ∀ p, p ≠ q → R' p = R p) : Rws P w H' r ds R' := by
  obtain ⟨es, he, _⟩ := h.row q d hd
  have sT := sameX_t s he
  refine ⟨s _ _ (ne_of h.lst he (by intro z; cases z)) h.lst, h.nd, fun i c hc => ?_⟩
  by_cases e : i = q
  · subst e
    rw [hd] at hc
    cases hc
    exact hr
  · rw [ho i e]
    have hne : c ≠ d := fun z => by
      subst z
      have h1 := (List.getElem?_eq_some_iff.mp hc)
      have h2 := (List.getElem?_eq_some_iff.mp hd)
      obtain ⟨a1, a2⟩ := h1
      obtain ⟨b1, b2⟩ := h2
      have nd := List.nodup_iff_pairwise_ne.mp h.nd
      rcases Nat.lt_or_gt_of_ne e with g | g
      · exact List.pairwise_iff_getElem.mp nd i q a1 b1 g (a2.trans b2.symm)
      · exact List.pairwise_iff_getElem.mp nd q i b1 a1 g (b2.trans a2.symm)
    obtain ⟨es', h1, h2⟩ := h.row i c hc
    exact ⟨es', s _ _ hne h1, h2.keepT sT⟩
theorem paired_get {α β : Type} {F : α → β → Prop} {xs : List α} {ys : List β} (p : Paired F xs ys) : ∀ {i : Nat} {x : α}, xs[i]? = some x → ∃ y, ys[i]? = some y ∧ F x y := by
  induction p with
  | nil => intro i x h; simp at h
  | cons r t ih =>
    intro i x h
    cases i with
    | zero => simp at h; subst h; exact ⟨_, by simp, r⟩
    | succ i =>
      obtain ⟨y, h1, h2⟩ := ih (i := i) (x := x) (by simpa using h)
      exact ⟨y, by simpa using h1, h2⟩
def OptV (H : Hp) (v : V) (o : Option Val) : Prop := match o with
  | none => v = .non
  | some u => ValAt H v u
section
variable {P : Program} {w : World} {K : PySem.W.Frag} {mg : Str → Option Value} {base : Heap} {CC CT : Addr}
def spPut (P : Program) (w : World) (CC CT : Addr) : Sp := fun vs H Q _ => ∃ (a d kb : Addr) (T : Tb) (ring : Bool) (last : Option Int) (k : KK) (x : V) (v : Val) (f : KK → Option Val), vs = [.ref a, .ref d, .ref kb, x] ∧ TabAt CC CT H a T ring last ∧
  RowAt P w H d f ∧ KeyAt H k kb ∧ OkK k ∧ ValAt H x v ∧ ∀ H', SameX d H H' → RowAt P w H' d (putF1 f k v) → Q .non H'
theorem scPut : FnScope ["self", "table", "key", "value"] ["self", "table", "key", "value"] (defScope sPut) := ⟨rfl, rfl, rfl, by decide +kernel, rfl, by decide +kernel, by decide +kernel⟩
theorem ok_put {f : Addr} {fd : FuncData} (F : Fun K "put" "Table.put" sPut f fd) (T : Txt K mg CC CT) (M : Meths P w K mg base CC) : FnOk P w K mg base CX0 2 f fd ["self", "table", "key", "value"] (spPut P w CC CT) := by
  obtain ⟨fjn, djn, Gjn, mjn, bjn⟩ := M.jn
  refine F.ok scPut (fun vs H Q E h => ?_) (fun cdv A outer s H vs Q E hr h => ?_)
  · obtain ⟨a, d, kb, T', ring, last, k, x, v, g, rfl, _⟩ := h
    rfl
  · obtain ⟨a, d, kb, T', ring, last, k, x, v, g, rfl, ⟨dx, fs, hd, cs, gl, sm, ha, ff, dd⟩, ⟨es, he, ok⟩, hk, okk, hx, q⟩ := h
    obtain ⟨sx, hsm⟩ := dd.sums
    have hu := hr.units
    refine ⟨_, pss_one (ps_asg (pe_ifExp (pt_cmpR (op_inDN hu) (pv 2) (pv 1) (by rfl)) (pe_meth (pe_fld (pv 0) rfl) T.clC mjn Gjn hr bjn .nil pass0 (pa_cons (pe_ix (ix_dn hu) (pv 1) (pv 2) (fun _ _ => rfl)) (pa_cons (pv 3) pa_nil))) (pv 3)) (pg_sub (pv 1) (pv 2) (set_dn hu))), ?_⟩
    have fin : ∀ z, ValAt H z (match g k with | none => v | some a => vmin a v) → Q .non (upd H d (DN P w d (putE es k kb z))) := fun z hz => by
      refine q _ sameX_upd ⟨_, upd_same, ?_⟩
      have := (ok.put hk okk hz).keepT (sameX_t (sameX_upd (o := DN P w d (putE es k kb z))) he)
      exact this
    have hlen : es.length < 1000000 := by have := keys_bound ok.nd ok.ok; omega
    refine ⟨_, rfl, _, rfl, d, es, k, kb, rfl, rfl, he, ok.keys, hk, _, rfl, ?_⟩
    have hat := ok.at_ k
    cases e : lookE es k with
    | none =>
      rw [e] at hat
      cases e2 : g k with
      | some y => rw [e2] at hat; exact hat.elim
      | none =>
        rw [e2] at fin
        exact iteE rfl ⟨_, rfl, _, rfl, _, rfl, d, es, k, kb, rfl, rfl, he, ok.keys, hk, hlen, fin _ hx⟩
    | some y =>
      rw [e] at hat
      cases e2 : g k with
      | none => rw [e2] at hat; exact hat.elim
      | some y' =>
        rw [e2] at fin hat
        refine iteY rfl ⟨_, rfl, a, CT, dx, _, _, rfl, ha, T.clT, T.nSums, ff.sums, sm, sx, _, rfl, hsm, rfl, _, rfl, _, rfl, d, es, k, kb, y, rfl, rfl, he, ok.keys, hk, e, _, rfl, sm, y, x, y', v, rfl, hat, hx, fun z hz => ?_⟩
        exact ⟨_, rfl, _, rfl, d, es, k, kb, rfl, rfl, he, ok.keys, hk, hlen, fin _ hz⟩
/-! ### joined -/
def spJoined (CC CT : Addr) : Sp := fun vs H Q _ => ∃ (a l : Addr) (T : Tb) (ring : Bool) (last : Option Int) (xs : List V) (us : List Val), vs = [.ref a, .ref l] ∧ TabAt CC CT H a T ring last ∧ H l = some (.lst xs) ∧ Paired (ValAt H) xs us ∧
  ∀ v, OptV H v (bestOf none us) → Q v H
theorem scJoined : FnScope ["self", "some", "found", "value"] ["self", "some"] (defScope sJoined) := ⟨rfl, rfl, rfl, by decide +kernel, rfl, by decide +kernel, by decide +kernel⟩
theorem ok_joined {f : Addr} {fd : FuncData} (F : Fun K "joined" "Table.joined" sJoined f fd) (T : Txt K mg CC CT) (M : Meths P w K mg base CC) : FnOk P w K mg base CX0 2 f fd ["self", "some"] (spJoined CC CT) := by
  obtain ⟨fjn, djn, Gjn, mjn, bjn⟩ := M.jn
  refine F.ok scJoined (fun vs H Q E h => ?_) (fun cdv A outer s H vs Q E hr h => ?_)
  · obtain ⟨a, l, T', ring, last, xs, us, rfl, _⟩ := h
    rfl
  · obtain ⟨a, l, T', ring, last, xs, us, rfl, ⟨dx, fs, hd, cs, gl, sm, ha, ff, dd⟩, hl, hp, q⟩ := h
    obtain ⟨sx, hsm⟩ := dd.sums
    have nd := scJoined.nd
    refine ⟨_, pss_cons (ps_set (i := 2) nd rfl (Or.inl rfl) pe_non) (pss_cons (ps_for PassesOwn.never rfl (pi_list (pv 1)) (pg_name (i := 3) nd rfl (Or.inl rfl))
      (pss_one (ps_set (i := 2) nd rfl (Or.inl rfl) (pe_ifExp (pt_cmpR op_isN (pv 2) pe_non (nomark _)) (pv 3) (pe_meth (pe_fld (pv 0) rfl) T.clC mjn Gjn hr bjn .nil pass0 (pa_cons (pv 2) (pa_cons (pv 3) pa_nil)))))))
      (pss_one (ps_ret (pv 2)))), ?_⟩
    refine ⟨_, rfl, l, rfl, ⟨_, SqL.of hl⟩, for_list (K := K) (a := l) (xs := xs) (fun i σ H1 => ∃ (vf : V) (y3 : Option V), σ = [some (.ref a), some (.ref l), some vf, y3] ∧ H1 = H ∧ OptV H vf (bestOf none (us.take i)))
      ⟨_, _, rfl, rfl, rfl⟩ (fun i σ H1 _ ⟨_, _, _, e, _⟩ => by rw [e]; exact SqL.of hl) ?_ ?_⟩
    · rintro i x σ H1 hi ⟨vf, y3, rfl, rfl, ho⟩
      obtain ⟨u, hu, hx⟩ := paired_get hp hi
      have ht : us.take (i + 1) = us.take i ++ [u] := by rw [List.take_succ, hu]; rfl
      have hb := bestOf_snoc none (us.take i) u
      rw [← ht] at hb
      refine ⟨_, rfl, rfl, _, rfl, ?_⟩
      cases e : bestOf none (us.take i) with
      | none =>
        rw [e] at ho hb
        obtain rfl : vf = .non := ho
        exact iteY rfl ⟨_, rfl, _, _, rfl, rfl, by rw [hb]; exact hx⟩
      | some v0 =>
        rw [e] at ho hb
        obtain ⟨t, t2, rfl, h1, h2⟩ := id (show ValAt H1 vf v0 from ho)
        refine iteE rfl ⟨_, rfl, a, CT, dx, _, _, rfl, ha, T.clT, T.nSums, ff.sums, sm, sx, _, rfl, hsm, rfl, _, rfl, _, rfl, sm, _, _, v0, u, rfl, ho, hx, fun z hz => ?_⟩
        exact ⟨_, _, rfl, rfl, by rw [hb]; exact hz⟩
    · rintro σ H1 ⟨vf, y3, rfl, rfl, ho⟩
      have : us.take xs.length = us := by rw [Paired.length hp, List.take_length]
      rw [this] at ho
      exact ⟨_, rfl, q _ ho⟩
end
end Flk

set_option Elab.async false
set_option linter.all false
set_option maxRecDepth 100000
set_option maxHeartbeats 4000000
/-! The walk, 6: row. -/
namespace Flk
open PySem PySem.Spec PyProof.Rows L2
theorem sameX_new {Ha H H' : Hp} {d : Addr} (s : Same Ha H) (hd : Ha d = none) (x : SameX d H H') : Same Ha H' := fun b o e => x b o (ne_of_none e hd) (s b o e)
theorem putF_len {f : Str} {v y : V} : ∀ {fs : List (Str × V)}, fs.lookup f = some v → (putF f y fs).length = fs.length
  | [], h => by cases h
  | (k, x) :: r, h => by
    rw [show putF f y ((k, x) :: r) = (if k = f then (k, y) :: r else (k, x) :: putF f y r) from rfl]
    by_cases hk : k = f
    · rw [if_pos hk, List.length_cons, List.length_cons]
    · rw [if_neg hk, List.length_cons, List.length_cons]
      rw [List.lookup_cons] at h
      have : (f == k) = false := by
        rw [beq_eq_false_iff_ne]
        exact fun z => hk z.symm
      rw [this] at h
      rw [putF_len h]
theorem TF.len1000 {fs : List (Str × V)} {n longest : Nat} {ring : Bool} {hd cs gl sm : Addr} {last : Option Int} (f : TF fs n longest ring hd cs gl sm last) : fs.length < 1000 := by
  have := f.len
  split at this <;> omega
theorem TF.setLast {fs : List (Str × V)} {n longest : Nat} {ring : Bool} {hd cs gl sm : Addr} {last : Option Int} (f : TF fs n longest ring hd cs gl sm last) (l : Int) : TF (putF "last" (.int l) fs) n longest ring hd cs gl sm (some l) where
  len := by
    show (putF "last" (.int l) fs).length ≤ 100
    have h1 := f.len
    cases last with
    | none =>
      have := length_putF "last" (.int l) fs
      have h1 : fs.length ≤ 99 := h1
      omega
    | some l0 =>
      rw [putF_len (f.last l0 rfl)]
      exact h1
  many := by rw [lookup_putF, if_neg (by decide +kernel)]; exact f.many
  ring := by rw [lookup_putF, if_neg (by decide +kernel)]; exact f.ring
  held := by rw [lookup_putF, if_neg (by decide +kernel)]; exact f.held
  costs := by rw [lookup_putF, if_neg (by decide +kernel)]; exact f.costs
  goals := by rw [lookup_putF, if_neg (by decide +kernel)]; exact f.goals
  longest := by rw [lookup_putF, if_neg (by decide +kernel)]; exact f.longest
  sums := by rw [lookup_putF, if_neg (by decide +kernel)]; exact f.sums
  last := fun l' e => by cases e; rw [lookup_putF, if_pos rfl]
  no := fun m hm => by
    have : m ≠ "last" := fun e => hm (by rw [e]; decide +kernel)
    rw [lookup_putF, if_neg this]; exact f.no m hm
/-- rows = [{} for k in range(n)] -/
def RN (P : Program) (w : World) (Ha : Hp) (D : Addr) (i : Nat) (H1 : Hp) : Prop := ∃ ds : List Addr, ds.length = i ∧ Same Ha H1 ∧ H1 D = some (.lst (ds.map V.ref)) ∧ ds.Nodup ∧ ∀ d ∈ ds, Ha d = none ∧ H1 d = some (DN P w d [])
theorem RN.zero {P : Program} {w : World} {Ha : Hp} {D : Addr} (h : Ha D = none) : RN P w Ha D 0 (upd Ha D (.lst [])) := ⟨[], rfl, same_new h, upd_same, List.nodup_nil, fun _ h => (nomatch h)⟩
theorem RN.step {P : Program} {w : World} {Ha H1 : Hp} {D p : Addr} {i : Nat} (h : Ha D = none) (r : RN P w Ha D i H1) (hp : H1 p = none) :
    ∃ acc, (upd H1 p (DN P w p [])) D = some (.lst acc) ∧ acc.length = i ∧ RN P w Ha D (i + 1) (upd (upd H1 p (DN P w p [])) D (.lst (acc ++ [.ref p]))) := by
  obtain ⟨ds, hl, s, hD, nd, hds⟩ := r
  have s1 := same_new (o := DN P w p []) hp
  refine ⟨ds.map V.ref, s1 _ _ hD, by rw [List.length_map, hl], ds ++ [p], by rw [List.length_append, hl]; rfl, same_upd (s.trans s1) h, by rw [upd_same, List.map_append]; rfl, ?_, fun d hd => ?_⟩
  · rw [List.nodup_append]
    refine ⟨nd, by simp, fun x hx y hy e => ?_⟩
    rw [List.mem_singleton] at hy
    subst hy e
    rw [(hds _ hx).2] at hp
    cases hp
  · rcases List.mem_append.mp hd with hd | hd
    · refine ⟨(hds d hd).1, ?_⟩
      rw [upd_ne (ne_of (hds d hd).2 hD (by intro z; cases z))]
      exact s1 _ _ (hds d hd).2
    · rw [List.mem_singleton] at hd
      subst hd
      refine ⟨s.free hp, ?_⟩
      rw [upd_ne (ne_of_none hD hp).symm, upd_same]
structure RI (P : Program) (w : World) (Ha : Hp) (r : Addr) (ds : List Addr) (H1 : Hp) (R : Tabs) : Prop where
  same : Same Ha H1
  new : ∀ d ∈ ds, Ha d = none
  rws : Rws P w H1 r ds R
theorem RI.of {P : Program} {w : World} {Ha H1 : Hp} {D : Addr} {n : Nat} (r : RN P w Ha D n H1) : ∃ ds, ds.length = n ∧ RI P w Ha D ds H1 (fun _ _ => none) := by
  obtain ⟨ds, hl, s, hD, nd, hds⟩ := r
  exact ⟨ds, hl, s, fun d hd => (hds d hd).1, hD, nd, fun i d e => ⟨[], (hds d (List.mem_of_getElem? e)).2, ⟨fun _ h => (nomatch h), List.nodup_nil, fun _ h => (nomatch h), fun _ => True.intro⟩⟩⟩
theorem RI.keep {P : Program} {w : World} {Ha H1 H2 : Hp} {r : Addr} {ds : List Addr} {R : Tabs} (h : RI P w Ha r ds H1 R) (s : Same H1 H2) : RI P w Ha r ds H2 R := ⟨h.same.trans s, h.new, h.rws.keep s⟩
theorem RI.put {P : Program} {w : World} {Ha H1 H2 : Hp} {r d : Addr} {ds : List Addr} {R R' : Tabs} {q : Nat} (h : RI P w Ha r ds H1 R) (hd : ds[q]? = some d) (s : SameX d H1 H2) (hr : RowAt P w H2 d (R' q)) (ho : ∀ p, p ≠ q → R' p = R p) : RI P w Ha r ds H2 R' :=
  ⟨sameX_new h.same (h.new d (List.mem_of_getElem? hd)) s, h.new, h.rws.put hd s hr ho⟩
theorem RI.at_ {P : Program} {w : World} {Ha H1 : Hp} {r : Addr} {ds : List Addr} {R : Tabs} (h : RI P w Ha r ds H1 R) {q : Nat} (hq : q < ds.length) : ∃ d, ds[q]? = some d ∧ (ds.map V.ref)[q]? = some (V.ref d) ∧ RowAt P w H1 d (R q) := by
  have e := List.getElem?_eq_getElem hq
  exact ⟨_, e, by rw [List.getElem?_map, e]; rfl, h.rws.row _ _ e⟩
theorem at_last {ds : List Addr} {n : Nat} {d : Addr} (hl : ds.length = n) (h0 : 0 < n) (h : ds[n - 1]? = some d) : atI (ds.map V.ref) (-1) = some (V.ref d) := by
  have e : ixN (ds.map V.ref).length (-1) = some (n - 1) := by
    unfold ixN
    rw [List.length_map, hl, if_neg (by decide), if_pos (by omega)]
    congr 1
    omega
  unfold atI
  rw [e]
  show (ds.map V.ref)[n - 1]? = _
  rw [List.getElem?_map, h]
  rfl
theorem stepKey_ok {T : Tb} (W : TabW T) {b last p : Nat} {first : Option Int} {k : KK} (hk : OkK k) {s : Stp} (h : s ∈ T.steps b last first p k) : OkK s.key := by
  obtain ⟨o, ho, _, _, h⟩ := mem_steps.mp h
  have hr := W.rng _ o ho
  have ha : ∀ i, 0 ≤ altC k.2 o i ∧ altC k.2 o i < 3 := fun i => by
    unfold altC
    split
    · exact hk.2
    · exact hr
  rcases h with ⟨_, rfl⟩ | ⟨L, _, _, _, _, _, rfl⟩
  · exact ⟨fun i e => by cases e; exact hk.2, hr⟩
  · exact ⟨fun i e => by cases e; exact ha _, ha _⟩
theorem begin_put {start : KK → Val → Prop} {stp : Nat → KK → List Stp} {fired : Nat → KK → Stp → Prop} {begun : KK → Val → Prop} {R : Tabs} (h : TI start stp fired begun R) (hs : ∀ p k s, s ∈ stp p k → p < s.there) {k : KK} {v : Val} (hu : ∀ a, start k a → a = v) :
    putR R 0 k v 0 = fun j => if j = k then some v else R 0 j := by
  funext j
  unfold putR
  by_cases e : j = k
  · rw [if_pos ⟨rfl, e⟩, if_pos e]
    cases q : R 0 k with
    | none => rfl
    | some a =>
      have := hu a (pth_zero hs (h.sound _ _ _ q) rfl)
      subst this
      show some (vmin a a) = some a
      rw [vmin_self]
  · rw [if_neg (fun z => e z.2), if_neg e]
end Flk

set_option Elab.async false
set_option linter.all false
set_option maxRecDepth 100000
set_option maxHeartbeats 8000000
/-! The walk, 7: row. -/
namespace Flk
open PySem PySem.Spec PyProof.Rows L2
section
variable {P : Program} {w : World} {K : PySem.W.Frag} {mg : Str → Option Value} {base : Heap} {CC CT : Addr}
abbrev rowStart (T : Tb) : KK → Val → Prop := startOf T 0 fun c => T.suits 0 c = true
abbrev rowStp (T : Tb) : Nat → KK → List Stp := stpR T 0 (T.n - 1) none fun _ _ => true
theorem rowStp_up {T : Tb} : ∀ p k s, s ∈ rowStp T p k → p < s.there := fun p k s h => steps_up (stpR_mem.mp h).2.1
theorem ints_get {ns : List Int} {i : Nat} {v : V} (hi : (ns.map V.int)[i]? = some v) : ∃ n, ns[i]? = some n ∧ v = V.int n := by
  rw [List.getElem?_map] at hi
  cases e : ns[i]? with
  | none => rw [e] at hi; cases hi
  | some n => rw [e] at hi; exact ⟨n, rfl, (Option.some.inj hi).symm⟩
theorem TabAt.setLast {H : Hp} {a dx hd cs gl sm : Addr} {fs : List (Str × V)} {T : Tb} {ring : Bool} {last : Option Int} (ha : H a = some (.ins CT dx fs)) (ff : TF fs T.n T.longest ring hd cs gl sm last) (dd : TabD CC H T hd cs gl sm) (l : Int) :
    TabAt CC CT (upd H a (.ins CT dx (putF "last" (.int l) fs))) a T ring (some l) := by
  obtain ⟨sx, hsm⟩ := dd.sums
  refine ⟨dx, _, hd, cs, gl, sm, upd_same, ff.setLast l, dd.keepX ha (ne_of hsm ha ?_) sameX_upd⟩
  intro z
  cases z
  have := ff.many
  cases this
theorem refs_get {es : List DE} {j : Nat} {v : V} (hj : (es.map fun e => V.ref e.2.1)[j]? = some v) : ∃ e, es[j]? = some e ∧ v = V.ref e.2.1 := by
  rw [List.getElem?_map] at hj
  cases q : es[j]? with
  | none => rw [q] at hj; cases hj
  | some e => rw [q] at hj; exact ⟨e, rfl, (Option.some.inj hj).symm⟩
theorem mem_take_succ {ns : List Int} {i : Nat} {n c : Int} (h : ns[i]? = some n) (hc : c ∈ ns.take (i + 1)) : c ∈ ns.take i ∨ c = n := by
  rw [List.take_succ, h] at hc
  simpa using hc
def spRow (CC CT : Addr) : Sp := fun vs H Q _ => ∃ (a : Addr) (T : Tb) (ring : Bool) (last : Option Int), vs = [.ref a] ∧ TabAt CC CT H a T ring last ∧ TabW T ∧ T.held 0 = true ∧ T.held (T.n - 1) = true ∧
  ∀ H' v o, SameX a H H' → IsBest T.Spec o → OptV H' v o → Q v H'
/-- what the methods lean on: the methods of Table -/
structure MethT (P : Program) (w : World) (K : PySem.W.Frag) (mg : Str → Option Value) (base : Heap) (CC CT : Addr) : Prop where
  su : MFn P w K mg base CT 1 "suits" ["self", "cell", "colour"] (spSuits CC CT)
  st : MFn P w K mg base CT 1 "is_still" ["self", "cell", "before", "own", "behind"] (spStill CC CT)
  pu : MFn P w K mg base CT 2 "put" ["self", "table", "key", "value"] (spPut P w CC CT)
  fu : MFn P w K mg base CT 3 "further" ["self", "begin", "place", "key", "value", "first"] (spFurther CC CT)
  jn : MFn P w K mg base CT 2 "joined" ["self", "some"] (spJoined CC CT)
abbrev nRow : List Str := ["self", "rows", "own", "place", "key", "there", "fresh", "value", "k"]
theorem scRow : FnScope nRow ["self"] (defScope sRow) := ⟨rfl, rfl, rfl, by decide +kernel, rfl, by decide +kernel, by decide +kernel⟩
theorem ok_row {f : Addr} {fd : FuncData} (F : Fun K "row" "Table.row" sRow f fd) (T : Txt K mg CC CT) (M : Meths P w K mg base CC) (MT : MethT P w K mg base CC CT) : FnOk P w K mg base CX0 4 f fd ["self"] (spRow CC CT) := by
  obtain ⟨fbg, dbg, Gbg, mbg, bbg⟩ := M.bg
  obtain ⟨fsu, dsu, Gsu, msu, bsu⟩ := MT.su
  obtain ⟨fpu, dpu, Gpu, mpu, bpu⟩ := MT.pu
  obtain ⟨ffu, dfu, Gfu, mfu, bfu⟩ := MT.fu
  obtain ⟨fjn, djn, Gjn, mjn, bjn⟩ := MT.jn
  refine F.ok scRow (fun vs H Q E h => ?_) (fun cdv A outer s H vs Q E hr h => ?_)
  · obtain ⟨a, T', ring, last, rfl, _⟩ := h
    rfl
  · obtain ⟨a, T', ring, last, rfl, hT, W, h0, hln, q⟩ := h
    have hu := hr.units
    have hu1 := hu_of hr
    have hr1 : Room 1 _ := hr.mono (by decide)
    have hr2 : Room 2 _ := hr.mono (by decide)
    have nd := scRow.nd
    refine ⟨_, pss_cons (ps_fld (pv 0) (pe_op op_sub (pe_fld (pv 0) rfl) pe_int) rfl)
      (pss_cons (ps_set (i := 1) nd rfl (Or.inr rfl) (pe_lc (own := [("k", 8)]) (g := gName 8) (tt := tYes) rfl nd (pi_range1 (by rfl) T.zRange (pa_cons (pe_fld (pv 0) rfl) pa_nil)) (blkOk_by (own := [("k", 8)]) (N := nRow) (sc := defScope sRow) (by decide +kernel))
        (fun _ _ _ _ _ => pg_name (i := 8) nd rfl (Or.inl rfl)) (fun _ _ _ _ _ => pts_nil) (fun _ _ _ _ _ => show PE _ _ (tDNew P w) from pe_dnewN)))
      (pss_cons (ps_for PassesOwn.never rfl (pi_list (pe_callB (cr_sortedVI rfl hu) (by rfl) T.zSorted (by decide +kernel) (pa_cons (pe_keys (pe_ix ix_list (pe_fld (pv 0) rfl) pe_int (fun _ _ => rfl))) pa_nil))) (pg_name (i := 2) nd rfl (Or.inl rfl))
        (pss_one (ps_if (pt_val (pe_meth (pv 0) T.clT msu Gsu hr1 bsu .nil pass0 (pa_cons pe_int (pa_cons (pv 2) pa_nil))))
          (pss_one (ps_asg (pe_meth (pe_fld (pv 0) rfl) T.clC mbg Gbg hr1 bbg .nil pass0 (pa_cons (pe_dget hu1 (pe_ix ix_list (pe_fld (pv 0) rfl) pe_int (fun _ _ => rfl)) (pv 2) (fun _ _ => rfl)) (pa_cons (pv 2) pa_nil)))
            (pg_sub (pe_ix ix_list (pv 1) pe_int (fun _ _ => rfl)) (pe_tup (pa_cons pe_non (pa_cons (pv 2) pa_nil))) (set_dn hu))))
          pss_nil)))
      (pss_cons (ps_for PassesOwn.never rfl (pi_range1 (by rfl) T.zRange (pa_cons (pe_op op_sub (pe_fld (pv 0) rfl) pe_int) pa_nil)) (pg_name (i := 3) nd rfl (Or.inl rfl))
        (pss_one (ps_for PassesOwn.never rfl (pi_list (pe_callBK (cr_sortedVK rfl hu) (by rfl) T.zSorted (by decide +kernel) (pa_cons (pe_keys (pe_ix ix_list (pv 1) (pv 3) (fun _ _ => rfl))) pa_nil) (pk_cons (pe_bltn (v := .ty "str") (by rfl) T.zStr (by decide +kernel) rfl) pk_nil))) (pg_name (i := 4) nd rfl (Or.inl rfl))
          (pss_one (ps_for PassesOwn.never rfl (pi_list (pe_meth (pv 0) T.clT mfu Gfu hr bfu .nil pass0 (pa_cons pe_int (pa_cons (pv 3) (pa_cons (pv 4) (pa_cons (pe_ix (ix_dn hu) (pe_ix ix_list (pv 1) (pv 3) (fun _ _ => rfl)) (pv 4) (fun _ _ => rfl)) (pa_cons pe_non pa_nil)))))))
            (pg_tup rfl (pgs_cons (pg_name (i := 5) nd rfl (Or.inl rfl)) (pgs_cons (pg_name (i := 6) nd rfl (Or.inl rfl)) (pgs_cons (pg_name (i := 7) nd rfl (Or.inl rfl)) pgs_nil))))
            (pss_one (ps_expr (pe_meth (pv 0) T.clT mpu Gpu hr2 bpu .nil pass0 (pa_cons (pe_ix ix_list (pv 1) (pv 5) (fun _ _ => rfl)) (pa_cons (pv 6) (pa_cons (pv 7) pa_nil)))))))))))
      (pss_one (ps_ret (pe_meth (pv 0) T.clT mjn Gjn hr2 bjn .nil pass0 (pa_cons
        (pe_lc (own := [("key", 4)]) (g := gName 4) (tt := tYes) rfl nd (pi_list (pe_callBK (cr_sortedVK rfl hu) (by rfl) T.zSorted (by decide +kernel) (pa_cons (pe_keys (pe_ix ix_list (pv 1) (pe_un un_neg pe_int) (fun _ _ => rfl))) pa_nil) (pk_cons (pe_bltn (v := .ty "str") (by rfl) T.zStr (by decide +kernel) rfl) pk_nil)))
          (blkOk_by (own := [("key", 4)]) (N := nRow) (sc := defScope sRow) (by decide +kernel)) (fun _ _ _ _ _ => pg_name (i := 4) nd rfl (Or.inl rfl)) (fun _ _ _ _ _ => pts_nil)
          (fun _ _ _ _ _ => pe_ix (show IxR _ (rGetN P w) from ix_dn hu) (pe_ix (show IxR _ (rIxL K) from ix_list) (pv 1) (pe_un un_neg pe_int) (fun _ _ => rfl)) (pv 4) (fun _ _ => rfl))) pa_nil))))))), ?_⟩
    obtain ⟨dx, fs, hd, cs, gl, sm, ha0, ff0, dd0⟩ := id hT
    have n0 := W.n0
    have n6 := W.n6
    refine ⟨_, rfl, a, CT, dx, _, _, rfl, ha0, T.clT, T.nMany, ff0.many, _, _, rfl, rfl, _, rfl, a, CT, dx, _, rfl, ha0, T.clT, T.nLast, ff0.len1000, ?_⟩
    have hTa := TabAt.setLast ha0 ff0 dd0 ((T'.n : Int) - 1)
    have sxa : SameX a H (upd H a (.ins CT dx (putF "last" (.int ((T'.n : Int) - 1)) fs))) := sameX_upd
    dsimp only
    generalize upd H a (.ins CT dx (putF "last" (.int ((T'.n : Int) - 1)) fs)) = Ha at hTa sxa ⊢
    have eL : (T'.n : Int) - 1 = ((T'.n - 1 : Nat) : Int) := by omega
    rw [eL] at hTa
    clear ha0 ff0 dd0 hT
    obtain ⟨dx, fs, hd, cs, gl, sm, ha, ff, dd⟩ := id hTa
    obtain ⟨sx, hsm⟩ := dd.sums
    obtain ⟨cl, hcl, hcc⟩ := dd.costs
    obtain ⟨c, hc, hC⟩ := hcc 0 n0
    obtain ⟨d, kvs, ns, rfl, hdd, hkv, hperm, hpr⟩ := hC.ex
    refine ⟨_, rfl, a, CT, dx, _, _, rfl, ha, T.clT, T.nMany, ff.many, _, rfl, (by omega), (by omega), fun D hD => lc_range (lo := 0) (n := (T'.n : Int).toNat) (RN P w Ha D) (RN.zero hD) (fun i H1 hi r => ?_) (fun H1 r => ?_)⟩
    · refine ⟨rfl, fun p hp => ?_⟩
      obtain ⟨acc, h1, h2, h3⟩ := r.step hD hp
      exact ⟨acc, h1, small1000 (by omega), h3⟩
    obtain ⟨ds, hdl, I1⟩ := RI.of r
    rw [Int.toNat_natCast] at hdl
    have s1 := I1.same
    have c0 : T'.cell 0 0 = 0 := cell_row n0
    refine ⟨_, rfl, a, CT, dx, _, _, rfl, s1 _ _ ha, T.clT, T.nCosts, ff.costs, cs, _, _, _, rfl, rfl, SqL.of (s1 _ _ hcl), atI_nat (j := 0) hc, d, rfl, .inl ⟨kvs, s1 _ _ hdd⟩, fun z hz => ?_⟩
    refine ⟨z, d, kvs, ns, rfl, upd_same, same_new hz _ _ (s1 _ _ hdd), hkv, fun ns' y perm srt hy => ?_⟩
    have ens : ns' = T'.dom 0 := sorted_eq (perm.trans hperm) srt (W.srt _)
    have sy := (same_new (o := VW z d) hz).trans (same_new (o := HO.lst (ns'.map V.int)) hy)
    refine ⟨y, rfl, ⟨_, SqL.of upd_same⟩, for_list (K := K) (a := y) (xs := ns'.map V.int) (fun i σ H2 => ∃ (R : Tabs) (y2 y3 y4 y5 y6 y7 y8 : Option V), σ = [some (.ref a), some (.ref D), y2, y3, y4, y5, y6, y7, y8] ∧ RI P w Ha D ds H2 R ∧ H2 y = some (.lst (ns'.map V.int)) ∧
        TI (rowStart T') (rowStp T') (fun _ _ _ => False) (fun k v => ∃ c, c ∈ ns'.take i ∧ T'.suits 0 c = true ∧ k = (none, c) ∧ v = (T'.price (T'.cell 0 0) c, [c])) R)
        ⟨_, _, _, _, _, _, _, _, rfl, I1.keep sy, upd_same, TI.empty.mono (fun _ _ _ z => z) (fun _ _ ⟨c, hc, _⟩ => by simp at hc)⟩ (fun i σ H2 _ ⟨_, _, _, _, _, _, _, _, _, _, hy2, _⟩ => SqL.of hy2) ?_ ?_⟩
    · rintro i ov σ H2 hi ⟨R, y2, y3, y4, y5, y6, y7, y8, rfl, I2, hy2, hti⟩
      obtain ⟨ot, hot, rfl⟩ := ints_get hi
      have hmem : ot ∈ T'.dom 0 := by rw [← ens]; exact List.mem_of_getElem? hot
      have s2 := I2.same
      dsimp only [gName]
      refine st_if2 (bad := T'.suits 0 ot) (fun R' q' => ?_) (fun hb => ?_) (fun hb => ?_)
      · exact ⟨_, rfl, a, dx, _, rfl, s2 _ _ ha, ff.no _ (by decide +kernel), _, rfl, a, T', ring, _, 0, ot, rfl, hTa.keep s2, n0, _, rfl, q'⟩
      · obtain ⟨d0, hd0, hd0', es, he, hes⟩ := I2.at_ (q := 0) (by omega)
        have hget : DGet H2 d (.int ot) (some (.int (T'.price 0 ot))) := by
          have := DGet.k (k := Sum.inl ot) (s2 _ _ hdd)
          rw [hpr ot hmem] at this
          exact this
        refine ⟨_, rfl, a, CT, dx, _, _, rfl, s2 _ _ ha, T.clT, T.nSums, ff.sums, sm, sx, _, rfl, s2 _ _ hsm, rfl, _, rfl, a, CT, dx, _, _, rfl, s2 _ _ ha, T.clT, T.nCosts, ff.costs, cs, _, _, _, rfl, rfl, SqL.of (s2 _ _ hcl), atI_nat (j := 0) hc, _, rfl, d, _, rfl, hget, _, rfl, sm, _, ot, rfl, fun H3 x s3 hx => ?_⟩
        have I3 := I2.keep s3
        refine ⟨_, rfl, D, _, _, _, rfl, rfl, SqL.of I3.rws.lst, atI_nat (j := 0) hd0', _, rfl, (by show 2 ≤ sizeLine; decide), fun kb hkb => ?_⟩
        have s4 := same_new (o := HO.tup [V.non, V.int ot]) hkb
        have I4 := I3.keep s4
        have okk : OkK (none, ot) := ⟨fun i e => (nomatch e), W.rng 0 ot hmem⟩
        have hes4 := hes.keepT (same_t (s3.trans s4))
        have he4 := (s3.trans s4) _ _ he
        have hk4 : KeyAt (upd H3 kb (.tup [V.non, V.int ot])) (none, ot) kb := upd_same
        refine ⟨d0, es, (none, ot), kb, rfl, rfl, he4, hes4.keys, hk4, (by have := keys_bound hes.nd hes.ok; omega), ?_⟩
        refine ⟨putR R 0 (none, ot) (T'.price (T'.cell 0 0) ot, [ot]), _, _, _, _, _, _, _, rfl, I4.put hd0 sameX_upd ⟨_, upd_same, ?_⟩ (fun p hp => putR_other hp), ?_, ?_⟩
        · rw [begin_put hti rowStp_up (fun a ⟨c', _, _, e1, e2⟩ => by cases e1; exact e2), c0]
          exact (hes4.put hk4 okk (hx.keep s4)).keepT (sameX_t sameX_upd he4)
        · rw [upd_ne (ne_of (s4 _ _ (s3 _ _ hy2)) he4 (by intro z; cases z))]
          exact s4 _ _ (s3 _ _ hy2)
        · refine (hti.begin ⟨ot, by rw [c0]; exact hmem, hb, rfl, rfl⟩ (fun _ _ _ z => z.elim)).mono (fun _ _ _ z => z) (fun k v ⟨c', hc', hs, e1, e2⟩ => ?_)
          rcases mem_take_succ hot hc' with h | h
          · exact .inl ⟨c', h, hs, e1, e2⟩
          · subst h; exact .inr ⟨e1, e2⟩
      · refine ⟨R, _, _, _, _, _, _, _, rfl, I2, hy2, hti.mono (fun _ _ _ z => z) (fun k v ⟨c', hc', hs, e1, e2⟩ => ?_)⟩
        rcases mem_take_succ hot hc' with h | h
        · exact ⟨c', h, hs, e1, e2⟩
        · subst h; rw [hs] at hb; cases hb
    · rintro σ H2 ⟨R, y2, y3, y4, y5, y6, y7, y8, rfl, I2, hy2, hti⟩
      have s2 := I2.same
      have hti2 : TI (rowStart T') (rowStp T') (FA (rowStp T') 0 []) (rowStart T') R := hti.mono (fun p k s ⟨_, z⟩ => by
        rcases z with z | ⟨_, z⟩
        · omega
        · cases z) (fun k v ⟨c', hc', hs, e1, e2⟩ => ⟨c', by rw [List.length_map, List.take_length, ens, ← c0]; exact hc', hs, e1, e2⟩)
      refine ⟨_, rfl, a, CT, dx, _, _, rfl, s2 _ _ ha, T.clT, T.nMany, ff.many, _, _, rfl, rfl, _, rfl, (by omega), (by omega), ?_⟩
      refine for_range (lo := 0) (n := ((T'.n : Int) - 1).toNat) (fun i σ H3 => ∃ (R : Tabs) (y2 y3 y4 y5 y6 y7 y8 : Option V), σ = [some (.ref a), some (.ref D), y2, y3, y4, y5, y6, y7, y8] ∧ RI P w Ha D ds H3 R ∧ TI (rowStart T') (rowStp T') (FA (rowStp T') i []) (rowStart T') R)
        ⟨R, _, _, _, _, _, _, _, rfl, I2, hti2⟩ ?_ ?_
      · rintro i σ H3 hi ⟨R, y2, y3, y4, y5, y6, y7, y8, rfl, I3, hti3⟩
        have hiL : i < T'.n - 1 := by omega
        rw [Int.zero_add]
        have s3 := I3.same
        obtain ⟨di, hdi, hdi', es, he, hes⟩ := I3.at_ (q := i) (by omega)
        refine ⟨_, rfl, _, rfl, D, _, _, _, rfl, rfl, SqL.of I3.rws.lst, atI_nat hdi', di, rfl, .inr ⟨es, he⟩, fun z hz => ?_⟩
        have sz := same_new (o := VW z di) hz
        refine ⟨z, di, es, rfl, rfl, upd_same, sz _ _ he, (hes.keepT (same_t sz)).keys, (fun e he => (hes.ok e he).small), fun es' y perm hy => ?_⟩
        have sy := sz.trans (same_new (o := HO.lst (es'.map fun e => V.ref e.2.1)) hy)
        have hKeys : ∀ e ∈ es', KeyAt (upd (upd H3 z (VW z di)) y (HO.lst (es'.map fun e => V.ref e.2.1))) e.1 e.2.1 := fun e he' => (hes.keepT (same_t sy)).keys e (perm.mem_iff.mp he')
        refine ⟨y, rfl, ⟨_, SqL.of upd_same⟩, for_list (K := K) (a := y) (xs := es'.map fun e => V.ref e.2.1) (fun j σ H4 => ∃ (R4 : Tabs) (y2 y4 y5 y6 y7 y8 : Option V), σ = [some (.ref a), some (.ref D), y2, some (.int (i : Int)), y4, y5, y6, y7, y8] ∧ RI P w Ha D ds H4 R4 ∧ H4 y = some (.lst (es'.map fun e => V.ref e.2.1)) ∧ R4 i = R i ∧
            (∀ e ∈ es', KeyAt H4 e.1 e.2.1) ∧ TI (rowStart T') (rowStp T') (FA (rowStp T') i ((es'.take j).map (·.1))) (rowStart T') R4)
          ⟨R, _, _, _, _, _, _, rfl, I3.keep sy, upd_same, rfl, hKeys, hti3⟩ (fun j σ H4 _ ⟨_, _, _, _, _, _, _, _, _, h, _⟩ => SqL.of h) ?_ ?_⟩
        · rintro j kv σ H4 hj ⟨R4, y2, y4, y5, y6, y7, y8, rfl, I4, hy4, hRi, hK4, hti4⟩
          obtain ⟨e, hej, rfl⟩ := refs_get hj
          have hem : e ∈ es' := List.mem_of_getElem? hej
          have hem0 := perm.mem_iff.mp hem
          obtain ⟨u, hu0, _⟩ := hes.mem hem0
          have s4 := I4.same
          obtain ⟨di4, hdi4, hdi4', es4, he4, hes4⟩ := I4.at_ (q := i) (by omega)
          obtain ⟨x, hx1, hx2⟩ := hes4.get (k := e.1) (v := u) (by rw [hRi]; exact hu0)
          have hlen : u.2.length = i + 1 := len_path (hti4.sound i e.1 u (by rw [hRi]; exact hu0))
          refine ⟨_, rfl, a, dx, _, rfl, s4 _ _ ha, ff.no _ (by decide +kernel), _, rfl, _, rfl, _, rfl, _, rfl, D, _, _, _, rfl, rfl, SqL.of I4.rws.lst, atI_nat hdi4', _, rfl, di4, es4, e.1, e.2.1, x, rfl, rfl, he4, hes4.keys, hK4 e hem, hx1, ?_⟩
          refine ⟨a, e.2.1, T', ring, T'.n - 1, 0, i, e.1, x, u, none, rfl, hTa.keep s4, W, hiL, by omega, by decide, hK4 e hem, hx2, by omega, fun H5 l items s5 hl hll hitems => ?_⟩
          refine ⟨l, rfl, ⟨_, SqL.of hll⟩, for_list (K := K) (a := l) (xs := items) (fun t σ H6 => ∃ (R6 : Tabs) (y2 y5 y6 y7 y8 : Option V), σ = [some (.ref a), some (.ref D), y2, some (.int (i : Int)), some (.ref e.2.1), y5, y6, y7, y8] ∧ RI P w Ha D ds H6 R6 ∧ H6 y = some (.lst (es'.map fun e => V.ref e.2.1)) ∧
              H6 l = some (.lst items) ∧ R6 i = R i ∧ (∀ e ∈ es', KeyAt H6 e.1 e.2.1) ∧ Paired (StepAt H6 u) items (T'.steps 0 (T'.n - 1) none i e.1) ∧
              TI (rowStart T') (rowStp T') (FB (rowStp T') i ((es'.take j).map (·.1)) e.1 ((T'.steps 0 (T'.n - 1) none i e.1).take t)) (rowStart T') R6)
            ⟨R4, _, _, _, _, _, rfl, I4.keep s5, s5 _ _ hy4, hll, hRi, fun e' he' => (hK4 e' he').keep s5, hitems, ti_in hti4⟩ (fun t σ H6 _ ⟨_, _, _, _, _, _, _, _, _, h, _⟩ => SqL.of h) ?_ ?_⟩
          · rintro t sv σ H6 ht ⟨R6, y2, y5, y6, y7, y8, rfl, I6, hy6, hl6, hR6, hK6, hit6, hti6⟩
            obtain ⟨st, hst, tt, kb, x', rfl, htt, hkb, hx'⟩ := paired_get hit6 ht
            have hmem : st ∈ T'.steps 0 (T'.n - 1) none i e.1 := List.mem_of_getElem? hst
            have hup := steps_lt hmem hiL
            have s6 := I6.same
            obtain ⟨dq, hdq, hdq', es6, he6, hes6⟩ := I6.at_ (q := st.there) (by omega)
            refine ⟨tt, _, rfl, SqT.of htt, rfl, _, _, rfl, _, _, rfl, _, _, rfl, rfl, ?_⟩
            refine ⟨_, rfl, a, dx, _, rfl, s6 _ _ ha, ff.no _ (by decide +kernel), _, rfl, _, rfl, D, _, _, _, rfl, rfl, SqL.of I6.rws.lst, atI_nat hdq', _, rfl, _, rfl, a, dq, kb, T', ring, _, st.key, x', Val.plus u st, R6 st.there, rfl, hTa.keep s6, ⟨es6, he6, hes6⟩, hkb, stepKey_ok W (hes.ok e hem0) hmem, hx', fun H7 s7 hrow => ?_⟩
            have sT7 := sameX_t s7 he6
            have hne : ∀ b xs, H6 b = some (HO.lst xs) → b ≠ dq := fun b xs hb => ne_of hb he6 (by intro z; cases z)
            refine ⟨putR R6 st.there st.key (Val.plus u st), _, _, _, _, _, rfl, I6.put hdq s7 (by rw [putR_row]; exact hrow) (fun p hp => putR_other hp), s7 _ _ (hne _ _ hy6) hy6, s7 _ _ (hne _ _ hl6) hl6, (by rw [putR_other (by omega)]; exact hR6), fun e' he' => sT7 _ _ (hK6 e' he'), pairedStep_keepT hit6 sT7, ?_⟩
            have := ti_put hti6 (v := u) (by rw [hR6]; exact hu0) (stpR_mem.mpr ⟨hiL, hmem, rfl⟩) hup.1
            rw [List.take_succ, hst]
            exact this
          · rintro σ H6 ⟨R6, y2, y5, y6, y7, y8, rfl, I6, hy6, hl6, hR6, hK6, hit6, hti6⟩
            rw [Paired.length hit6, List.take_length] at hti6
            have e1 : T'.steps 0 (T'.n - 1) none i e.1 = rowStp T' i e.1 := by
              unfold rowStp stpR
              rw [if_pos hiL, stepsC_true]
            rw [e1] at hti6
            refine ⟨R6, _, _, _, _, _, _, rfl, I6, hy6, hR6, hK6, ?_⟩
            rw [List.take_succ, hej, List.map_append]
            exact ti_out hti6
        · rintro σ H4 ⟨R4, y2, y4, y5, y6, y7, y8, rfl, I4, hy4, hRi, hK4, hti4⟩
          rw [List.length_map, List.take_length] at hti4
          refine ⟨R4, _, _, _, _, _, _, _, rfl, I4, ti_next hti4 fun k v hk => ?_⟩
          rw [hRi] at hk
          obtain ⟨e, he', ek⟩ := hes.has hk
          exact List.mem_map.mpr ⟨e, perm.mem_iff.mpr he', ek⟩
      · rintro σ H3 ⟨R, y2, y3, y4, y5, y6, y7, y8, rfl, I3, hti3⟩
        have eT : ((T'.n : Int) - 1).toNat = T'.n - 1 := by omega
        rw [eT] at hti3
        obtain ⟨snd, cmp⟩ := ti_end hti3
        rw [stepsC_true] at snd cmp
        have s3 := I3.same
        obtain ⟨dl, hdl1, hdl', es, he, hes⟩ := I3.at_ (q := T'.n - 1) (by omega)
        have hat := at_last hdl n0 hdl1
        refine ⟨_, rfl, a, dx, _, rfl, s3 _ _ ha, ff.no _ (by decide +kernel), _, rfl, _, rfl, D, _, _, _, rfl, rfl, SqL.of I3.rws.lst, hat, dl, rfl, .inr ⟨es, he⟩, fun z hz => ?_⟩
        have sz := same_new (o := VW z dl) hz
        refine ⟨z, dl, es, rfl, rfl, upd_same, sz _ _ he, (hes.keepT (same_t sz)).keys, (fun e he => (hes.ok e he).small), fun es' y perm hy => ?_⟩
        have sy := sz.trans (same_new (o := HO.lst (es'.map fun e => V.ref e.2.1)) hy)
        have hyy : (upd (upd H3 z (VW z dl)) y (HO.lst (es'.map fun e => V.ref e.2.1))) y = some (HO.lst (es'.map fun e => V.ref e.2.1)) := upd_same
        generalize upd (upd H3 z (VW z dl)) y (HO.lst (es'.map fun e => V.ref e.2.1)) = Hy at sy hyy ⊢
        have Iy := I3.keep sy
        have hesy := hes.keepT (same_t sy)
        refine ⟨y, rfl, ⟨_, SqL.of hyy⟩, fun D2 hD2 => lc_list (K := K) (a := y) (xs := es'.map fun e => V.ref e.2.1) (fun j H4 => ∃ acc, H4 D2 = some (.lst acc) ∧ Same Hy H4 ∧ acc.length = j ∧ Paired (ValAt H4) acc ((es'.take j).map fun e => (R (T'.n - 1) e.1).getD (0, [])))
          ⟨[], upd_same, same_new hD2, rfl, .nil⟩ (fun j H4 _ ⟨_, _, s4, _⟩ => SqL.of (s4 _ _ hyy)) ?_ ?_⟩
        · rintro j kv H4 hj ⟨acc, hacc, s4, hal, hpa⟩
          obtain ⟨e, hej, rfl⟩ := refs_get hj
          have hem0 := perm.mem_iff.mp (List.mem_of_getElem? hej)
          obtain ⟨u, hu0, hvu⟩ := hesy.mem hem0
          have hjl : j < 12 := by
            have h1 := (List.getElem?_eq_some_iff.mp hej).1
            have h2 := perm.length_eq
            have h3 := keys_bound hes.nd hes.ok
            omega
          have sT : SameT H4 (upd H4 D2 (.lst (acc ++ [e.2.2]))) := sameT_upd hacc fun xs z => by cases z
          refine ⟨rfl, _, rfl, _, rfl, D, _, _, _, rfl, rfl, SqL.of (s4 _ _ Iy.rws.lst), hat, _, rfl, dl, es, e.1, e.2.1, e.2.2, rfl, rfl, s4 _ _ (sy _ _ he), (hesy.keepT (same_t s4)).keys, (hesy.keepT (same_t s4)).keys e hem0, lookE_of hes.nd hem0, acc, hacc, small1000 (by omega), ?_⟩
          refine ⟨_, upd_same, same_upd s4 hD2, by rw [List.length_append, hal]; rfl, ?_⟩
          rw [List.take_succ, hej, List.map_append]
          refine Paired.snoc (Paired.mapP hpa fun _ _ z => z.keepT sT) ?_
          dsimp only
          rw [hu0]
          exact (hvu.keep s4).keepT sT
        · rintro H4 ⟨acc, hacc, s4, hal, hpa⟩
          rw [List.length_map, List.take_length] at hpa
          refine ⟨a, D2, T', ring, _, acc, _, rfl, hTa.keep ((I3.same.trans sy).trans s4), hacc, hpa, fun v hv => q _ v _ (sxa.trans (same_x ((I3.same.trans sy).trans s4) a)) ?_ hv⟩
          refine best_of (fun u hu' => ?_) (fun v hv => ?_)
          · obtain ⟨e, he', rfl⟩ := List.mem_map.mp hu'
            obtain ⟨u, hu0, _⟩ := hes.mem (perm.mem_iff.mp he')
            rw [hu0]
            exact (row_set n0 h0 hln (by have := W.lg; omega) u).mp ⟨e.1, snd _ _ hu0⟩
          · obtain ⟨k, hk⟩ := (row_set n0 h0 hln (by have := W.lg; omega) v).mpr hv
            obtain ⟨v', h1, h2⟩ := cmp k v hk
            obtain ⟨e, he', ek⟩ := hes.has h1
            refine ⟨v', List.mem_map.mpr ⟨e, perm.mem_iff.mpr he', ?_⟩, h2⟩
            rw [ek, h1]
            rfl
end
end Flk

set_option Elab.async false
set_option linter.all false
set_option maxRecDepth 100000
set_option maxHeartbeats 8000000
/-! The walk, 8: around. -/
namespace Flk
open PySem PySem.Spec PyProof.Rows L2
theorem or_val {ta tb : TE} {σ : L2.St} {H : Hp} {Q : VK} {c1 c2 : Bool} (h1 : ∀ R : VK, R (.bl c1) H → ta σ H R) (h2 : ∀ R : VK, R (.bl c2) H → tb σ H R) (q : Q (.bl (c1 || c2)) H) : tOrV ta tb σ H Q := by
  refine h1 _ ⟨c1, rfl, ?_⟩
  cases c1
  · exact iteF (h2 _ q)
  · exact iteT q
abbrev arStart (T : Tb) (b : Nat) (s : Int) : KK → Val → Prop := startOf T b (· = s)
abbrev arStp (T : Tb) (b : Nat) (f : Int) : Nat → KK → List Stp := stpR T b T.n (some f) (clo T.n b)
theorem arStp_up {T : Tb} {b : Nat} {f : Int} : ∀ p k s, s ∈ arStp T b f p k → p < s.there := fun p k s h => steps_up (stpR_mem.mp h).2.1
def ArOk (T : Tb) (b : Nat) (s f : Int) (us : List Val) : Prop := (∀ u ∈ us, ∃ k v, T.RingAt b s f k v ∧ k.2 = s ∧ T.still b k.1 s f = true ∧ u = closeV T b s v) ∧
  ∀ k v, T.RingAt b s f k v → k.2 = s → T.still b k.1 s f = true → ∃ u ∈ us, vle u (closeV T b s v)
section
variable {P : Program} {w : World} {K : PySem.W.Frag} {mg : Str → Option Value} {base : Heap} {CC CT : Addr}
def spAround (CC CT : Addr) : Sp := fun vs H Q _ => ∃ (a : Addr) (T : Tb) (ring : Bool) (last : Option Int) (b : Nat) (s f : Int), vs = [.ref a, .int b, .int s, .int f] ∧ TabAt CC CT H a T ring last ∧ TabW T ∧ b < T.n ∧ s ∈ T.dom b ∧
  ∀ H' l xs us, SameX a H H' → TabAt CC CT H' a T ring (some T.n) → H' l = some (.lst xs) → Paired (ValAt H') xs us → us.length ≤ 12 → ArOk T b s f us → Q (.ref l) H'
abbrev nAr : List Str := ["self", "begin", "own", "first", "rows", "place", "key", "there", "fresh", "value", "closes", "found", "before", "last", "k"]
theorem scAr : FnScope nAr ["self", "begin", "own", "first"] (defScope sAround) := ⟨rfl, rfl, rfl, by decide +kernel, rfl, by decide +kernel, by decide +kernel⟩
theorem ok_around {f : Addr} {fd : FuncData} (F : Fun K "around" "Table.around" sAround f fd) (T : Txt K mg CC CT) (M : Meths P w K mg base CC) (MT : MethT P w K mg base CC CT) : FnOk P w K mg base CX0 4 f fd ["self", "begin", "own", "first"] (spAround CC CT) := by
  obtain ⟨fbg, dbg, Gbg, mbg, bbg⟩ := M.bg
  obtain ⟨fcl, dcl, Gcl, mcl, bcl⟩ := M.cl
  obtain ⟨fst, dst, Gst, mst, bst⟩ := MT.st
  obtain ⟨fpu, dpu, Gpu, mpu, bpu⟩ := MT.pu
  obtain ⟨ffu, dfu, Gfu, mfu, bfu⟩ := MT.fu
  refine F.ok scAr (fun vs H Q E h => ?_) (fun cdv A outer s H vs Q E hr h => ?_)
  · obtain ⟨a, T', ring, last, b, so, fo, rfl, _⟩ := h
    rfl
  · obtain ⟨a, T', ring, last, b, so, fo, rfl, hT, W, hb, hso, q⟩ := h
    have hu := hr.units
    have hu1 := hu_of hr
    have hr1 : Room 1 _ := hr.mono (by decide)
    have hr2 : Room 2 _ := hr.mono (by decide)
    have nd := scAr.nd
    refine ⟨_, pss_cons (ps_fld (pv 0) (pe_fld (pv 0) rfl) rfl)
      (pss_cons (ps_setLc (i := 4) (own := [("k", 14)]) (g := gName 14) (tt := tYes) rfl nd rfl rfl (sw_true rfl rfl rfl (by decide +kernel)) (pi_range1 (by rfl) T.zRange (pa_cons (pe_op op_add (pe_fld (pv 0) rfl) pe_int) pa_nil)) (blkOk_by (own := [("k", 14)]) (N := nAr) (sc := defScope sAround) (by decide +kernel))
        (fun _ _ _ _ _ => pg_name (i := 14) nd rfl (Or.inl rfl)) (fun _ _ _ _ _ => pts_nil) (fun _ _ _ _ _ => show PE _ _ (tDNew P w) from pe_dnewN))
      (pss_cons (ps_asg (pe_meth (pe_fld (pv 0) rfl) T.clC mbg Gbg hr1 bbg .nil pass0 (pa_cons (pe_dget hu1 (pe_ix ix_list (pe_fld (pv 0) rfl) (pv 1) (fun _ _ => rfl)) (pv 2) (fun _ _ => rfl)) (pa_cons (pv 2) pa_nil)))
            (pg_sub (pe_ix ix_list (pv 4) pe_int (fun _ _ => rfl)) (pe_tup (pa_cons pe_non (pa_cons (pv 2) pa_nil))) (set_dn hu)))
      (pss_cons (ps_for PassesOwn.never rfl (pi_range1 (by rfl) T.zRange (pa_cons (pe_fld (pv 0) rfl) pa_nil)) (pg_name (i := 5) nd rfl (Or.inl rfl))
        (pss_one (ps_for PassesOwn.never rfl (pi_list (pe_callBK (cr_sortedVK rfl hu) (by rfl) T.zSorted (by decide +kernel) (pa_cons (pe_keys (pe_ix ix_list (pv 4) (pv 5) (fun _ _ => rfl))) pa_nil) (pk_cons (pe_bltn (v := .ty "str") (by rfl) T.zStr (by decide +kernel) rfl) pk_nil))) (pg_name (i := 6) nd rfl (Or.inl rfl))
          (pss_one (ps_for PassesOwn.never rfl (pi_list (pe_meth (pv 0) T.clT mfu Gfu hr bfu .nil pass0 (pa_cons (pv 1) (pa_cons (pv 5) (pa_cons (pv 6) (pa_cons (pe_ix (ix_dn hu) (pe_ix ix_list (pv 4) (pv 5) (fun _ _ => rfl)) (pv 6) (fun _ _ => rfl)) (pa_cons (pv 3) pa_nil)))))))
            (pg_tup rfl (pgs_cons (pg_name (i := 7) nd rfl (Or.inl rfl)) (pgs_cons (pg_name (i := 8) nd rfl (Or.inl rfl)) (pgs_cons (pg_name (i := 9) nd rfl (Or.inl rfl)) pgs_nil))))
            (pss_cons (ps_set (i := 10) nd rfl (Or.inl rfl) (pe_or (pe_cmpR op_lt (pv 7) (pe_fld (pv 0) rfl) (nomark _)) (pe_or (pe_cmpR op_eq (pv 1) pe_int (nomark _)) (pe_one (pe_cmpR op_lt (pv 5) (pe_op op_sub (pe_fld (pv 0) rfl) (pv 1)) (nomark _))))))
            (pss_one (ps_if (pt_val (pv 10)) (pss_one (ps_expr (pe_meth (pv 0) T.clT mpu Gpu hr2 bpu .nil pass0 (pa_cons (pe_ix ix_list (pv 4) (pv 7) (fun _ _ => rfl)) (pa_cons (pv 8) (pa_cons (pv 9) pa_nil)))))) pss_nil))))))))
      (pss_cons (ps_set (i := 11) nd rfl (Or.inl rfl) (pe_lst pa_nil))
      (pss_cons (ps_for PassesOwn.never rfl (pi_list (pe_callB (cr_sortedVP rfl hu) (by rfl) T.zSorted (by decide +kernel) (pa_cons (pe_keys (pe_ix ix_list (pv 4) (pe_fld (pv 0) rfl) (fun _ _ => rfl))) pa_nil)))
          (pg_tup rfl (pgs_cons (pg_name (i := 12) nd rfl (Or.inl rfl)) (pgs_cons (pg_name (i := 13) nd rfl (Or.inl rfl)) pgs_nil)))
          (pss_one (ps_if (PW.pt (pw_and (pt_cmpR op_eq (pv 13) (pv 2) (nomark _)) (pw_and1 (pt_val (pe_meth (pv 0) T.clT mst Gst hr1 bst .nil pass0 (pa_cons (pv 1) (pa_cons (pv 12) (pa_cons (pv 2) (pa_cons (pv 3) pa_nil)))))))))
            (pss_one (ps_expr (pe_bm PySem.F.plainAttrs_list PySem.F.slot_list_append PySem.F.type_list_append mt_append (pv 11)
              (pa_cons (pe_meth (pe_fld (pv 0) rfl) T.clC mcl Gcl hr1 bcl .nil pass0 (pa_cons (pe_ix (ix_dn hu) (pe_ix ix_list (pv 4) (pe_fld (pv 0) rfl) (fun _ _ => rfl)) (pe_tup (pa_cons (pv 12) (pa_cons (pv 13) pa_nil))) (fun _ _ => rfl))
                (pa_cons (pe_dget hu1 (pe_ix ix_list (pe_fld (pv 0) rfl) (pv 1) (fun _ _ => rfl)) (pv 2) (fun _ _ => rfl)) (pa_cons (pv 1) pa_nil)))) pa_nil))))
            pss_nil)))
      (pss_one (ps_ret (pv 11)))))))), ?_⟩
    obtain ⟨dx, fs, hd, cs, gl, sm, ha0, ff0, dd0⟩ := id hT
    have n0 := W.n0
    have n6 := W.n6
    refine ⟨_, rfl, a, CT, dx, _, _, rfl, ha0, T.clT, T.nMany, ff0.many, _, rfl, a, CT, dx, _, rfl, ha0, T.clT, T.nLast, ff0.len1000, ?_⟩
    have hTa := TabAt.setLast ha0 ff0 dd0 (T'.n : Int)
    have sxa : SameX a H (upd H a (.ins CT dx (putF "last" (.int (T'.n : Int)) fs))) := sameX_upd
    dsimp only
    generalize upd H a (.ins CT dx (putF "last" (.int (T'.n : Int)) fs)) = Ha at hTa sxa ⊢
    clear ha0 ff0 dd0 hT
    obtain ⟨dx, fs, hd, cs, gl, sm, ha, ff, dd⟩ := id hTa
    obtain ⟨sx, hsm⟩ := dd.sums
    obtain ⟨cl, hcl, hcc⟩ := dd.costs
    obtain ⟨c, hc, hC⟩ := hcc b hb
    obtain ⟨d, kvs, ns, rfl, hdd, hkv, hperm, hpr⟩ := hC.ex
    have cb0 : T'.cell b 0 = b := cell_lt (by omega)
    refine ⟨_, rfl, a, CT, dx, _, _, rfl, ha, T.clT, T.nMany, ff.many, _, _, rfl, rfl, _, rfl, (by omega), (by omega), fun D hD => lc_range (lo := 0) (n := ((T'.n : Int) + 1).toNat) (RN P w Ha D) (RN.zero hD) (fun i H1 hi r => ?_) (fun H1 r => ?_)⟩
    · refine ⟨rfl, fun p hp => ?_⟩
      obtain ⟨acc, h1, h2, h3⟩ := r.step hD hp
      exact ⟨acc, h1, small1000 (by omega), h3⟩
    obtain ⟨ds, hdl, I1⟩ := RI.of r
    have eN : ((T'.n : Int) + 1).toNat = T'.n + 1 := by omega
    rw [eN] at hdl
    have s1 := I1.same
    -- rows[0][None, own]
    obtain ⟨d0, hd0, hd0', es0, he0, hes0⟩ := I1.at_ (q := 0) (by omega)
    have hget : ∀ H2, Same Ha H2 → DGet H2 d (.int so) (some (.int (T'.price b so))) := fun H2 s2 => by
      have := DGet.k (k := Sum.inl so) (s2 _ _ hdd)
      rw [hpr so hso] at this
      exact this
    refine ⟨_, rfl, a, CT, dx, _, _, rfl, s1 _ _ ha, T.clT, T.nSums, ff.sums, sm, sx, _, rfl, s1 _ _ hsm, rfl, _, rfl, a, CT, dx, _, _, rfl, s1 _ _ ha, T.clT, T.nCosts, ff.costs, _, rfl, cs, _, _, _, rfl, rfl, SqL.of (s1 _ _ hcl), atI_nat hc, _, rfl, d, _, rfl, hget _ s1, _, rfl, sm, _, so, rfl, fun H3 x s3 hx => ?_⟩
    have I3 := I1.keep s3
    refine ⟨_, rfl, D, _, _, _, rfl, rfl, SqL.of I3.rws.lst, atI_nat (j := 0) hd0', _, rfl, (by show 2 ≤ sizeLine; decide), fun kb hkb => ?_⟩
    have s4 := same_new (o := HO.tup [V.non, V.int so]) hkb
    have I4 := I3.keep s4
    have okk : OkK (none, so) := ⟨fun i e => (nomatch e), W.rng b so hso⟩
    have hes4 := hes0.keepT (same_t (s3.trans s4))
    have he4 := (s3.trans s4) _ _ he0
    have hk4 : KeyAt (upd H3 kb (.tup [V.non, V.int so])) (none, so) kb := upd_same
    refine ⟨d0, es0, (none, so), kb, rfl, rfl, he4, hes4.keys, hk4, (by have := keys_bound hes0.nd hes0.ok; omega), ?_⟩
    have htE : TI (arStart T' b so) (arStp T' b fo) (fun _ _ _ => False) (fun _ _ => False) (fun _ _ => none) := TI.empty
    have I5 := I4.put (R' := putR (fun _ _ => none) 0 (none, so) (T'.price (T'.cell b 0) so, [so])) hd0 (sameX_upd (o := DN P w d0 (putE es0 (none, so) kb x))) ⟨_, upd_same, by
      rw [begin_put htE arStp_up (fun a ⟨c', _, _, e1, e2⟩ => by cases e1; exact e2), cb0]
      exact (hes4.put hk4 okk (hx.keep s4)).keepT (sameX_t sameX_upd he4)⟩ (fun p hp => putR_other hp)
    have hti5 : TI (arStart T' b so) (arStp T' b fo) (FA (arStp T' b fo) 0 []) (arStart T' b so) (putR (fun _ _ => none) 0 (none, so) (T'.price (T'.cell b 0) so, [so])) := by
      refine (htE.begin ⟨so, by rw [cb0]; exact hso, rfl, rfl, rfl⟩ (fun _ _ _ z => z.elim)).mono (fun p k s ⟨_, z⟩ => ?_) (fun k v ⟨c', _, e0, e1, e2⟩ => ?_)
      · rcases z with z | ⟨_, z⟩
        · omega
        · cases z
      · subst e0; exact .inr ⟨e1, e2⟩
    dsimp only
    generalize putR (fun _ _ => none) 0 (none, so) (T'.price (T'.cell b 0) so, [so]) = R5 at I5 hti5
    have s5 := I5.same
    refine ⟨_, rfl, a, CT, dx, _, _, rfl, s5 _ _ ha, T.clT, T.nMany, ff.many, _, rfl, (by omega), (by omega), ?_⟩
    refine for_range (lo := 0) (n := (T'.n : Int).toNat) (fun i σ H3 => ∃ (R : Tabs) (y5 y6 y7 y8 y9 y10 y11 y12 y13 y14 : Option V), σ = [some (.ref a), some (.int b), some (.int so), some (.int fo), some (.ref D), y5, y6, y7, y8, y9, y10, y11, y12, y13, y14] ∧ RI P w Ha D ds H3 R ∧ TI (arStart T' b so) (arStp T' b fo) (FA (arStp T' b fo) i []) (arStart T' b so) R)
      ⟨R5, _, _, _, _, _, _, _, _, _, _, rfl, I5, hti5⟩ ?_ ?_
    · rintro i σ H3 hi ⟨R, y5, y6, y7, y8, y9, y10, y11, y12, y13, y14, rfl, I3, hti3⟩
      have hiL : i < T'.n := by omega
      rw [Int.zero_add]
      have s3 := I3.same
      obtain ⟨di, hdi, hdi', es, he, hes⟩ := I3.at_ (q := i) (by omega)
      refine ⟨_, rfl, _, rfl, D, _, _, _, rfl, rfl, SqL.of I3.rws.lst, atI_nat hdi', di, rfl, .inr ⟨es, he⟩, fun z hz => ?_⟩
      have sz := same_new (o := VW z di) hz
      refine ⟨z, di, es, rfl, rfl, upd_same, sz _ _ he, (hes.keepT (same_t sz)).keys, (fun e he => (hes.ok e he).small), fun es' y perm hy => ?_⟩
      have sy := sz.trans (same_new (o := HO.lst (es'.map fun e => V.ref e.2.1)) hy)
      have hKeys : ∀ e ∈ es', KeyAt (upd (upd H3 z (VW z di)) y (HO.lst (es'.map fun e => V.ref e.2.1))) e.1 e.2.1 := fun e he' => (hes.keepT (same_t sy)).keys e (perm.mem_iff.mp he')
      refine ⟨y, rfl, ⟨_, SqL.of upd_same⟩, for_list (K := K) (a := y) (xs := es'.map fun e => V.ref e.2.1) (fun j σ H4 => ∃ (R4 : Tabs) (y6 y7 y8 y9 y10 y11 y12 y13 y14 : Option V), σ = [some (.ref a), some (.int b), some (.int so), some (.int fo), some (.ref D), some (.int (i : Int)), y6, y7, y8, y9, y10, y11, y12, y13, y14] ∧ RI P w Ha D ds H4 R4 ∧ H4 y = some (.lst (es'.map fun e => V.ref e.2.1)) ∧ R4 i = R i ∧
          (∀ e ∈ es', KeyAt H4 e.1 e.2.1) ∧ TI (arStart T' b so) (arStp T' b fo) (FA (arStp T' b fo) i ((es'.take j).map (·.1))) (arStart T' b so) R4)
        ⟨R, _, _, _, _, _, _, _, _, _, rfl, I3.keep sy, upd_same, rfl, hKeys, hti3⟩ (fun j σ H4 _ ⟨_, _, _, _, _, _, _, _, _, _, _, _, h, _⟩ => SqL.of h) ?_ ?_⟩
      · rintro j kv σ H4 hj ⟨R4, y6, y7, y8, y9, y10, y11, y12, y13, y14, rfl, I4, hy4, hRi, hK4, hti4⟩
        obtain ⟨e, hej, rfl⟩ := refs_get hj
        have hem : e ∈ es' := List.mem_of_getElem? hej
        have hem0 := perm.mem_iff.mp hem
        obtain ⟨u, hu0, _⟩ := hes.mem hem0
        have s4 := I4.same
        obtain ⟨di4, hdi4, hdi4', es4, he4, hes4⟩ := I4.at_ (q := i) (by omega)
        obtain ⟨x, hx1, hx2⟩ := hes4.get (k := e.1) (v := u) (by rw [hRi]; exact hu0)
        have hlen : u.2.length = i + 1 := len_path (hti4.sound i e.1 u (by rw [hRi]; exact hu0))
        refine ⟨_, rfl, a, dx, _, rfl, s4 _ _ ha, ff.no _ (by decide +kernel), _, rfl, _, rfl, _, rfl, _, rfl, _, rfl, D, _, _, _, rfl, rfl, SqL.of I4.rws.lst, atI_nat hdi4', _, rfl, di4, es4, e.1, e.2.1, x, rfl, rfl, he4, hes4.keys, hK4 e hem, hx1, _, rfl, ?_⟩
        refine ⟨a, e.2.1, T', ring, T'.n, b, i, e.1, x, u, some fo, rfl, hTa.keep s4, W, hiL, by omega, by omega, hK4 e hem, hx2, by omega, fun H5 l items s5 hl hll hitems => ?_⟩
        refine ⟨l, rfl, ⟨_, SqL.of hll⟩, for_list (K := K) (a := l) (xs := items) (fun t σ H6 => ∃ (R6 : Tabs) (y7 y8 y9 y10 y11 y12 y13 y14 : Option V), σ = [some (.ref a), some (.int b), some (.int so), some (.int fo), some (.ref D), some (.int (i : Int)), some (.ref e.2.1), y7, y8, y9, y10, y11, y12, y13, y14] ∧ RI P w Ha D ds H6 R6 ∧ H6 y = some (.lst (es'.map fun e => V.ref e.2.1)) ∧
            H6 l = some (.lst items) ∧ R6 i = R i ∧ (∀ e ∈ es', KeyAt H6 e.1 e.2.1) ∧ Paired (StepAt H6 u) items (T'.steps b T'.n (some fo) i e.1) ∧
            TI (arStart T' b so) (arStp T' b fo) (FB (arStp T' b fo) i ((es'.take j).map (·.1)) e.1 (((T'.steps b T'.n (some fo) i e.1).take t).filter fun s => clo T'.n b i s.there)) (arStart T' b so) R6)
          ⟨R4, _, _, _, _, _, _, _, _, rfl, I4.keep s5, s5 _ _ hy4, hll, hRi, fun e' he' => (hK4 e' he').keep s5, hitems, ti_in hti4⟩ (fun t σ H6 _ ⟨_, _, _, _, _, _, _, _, _, _, _, _, h, _⟩ => SqL.of h) ?_ ?_⟩
        · rintro t sv σ H6 ht ⟨R6, y7, y8, y9, y10, y11, y12, y13, y14, rfl, I6, hy6, hl6, hR6, hK6, hit6, hti6⟩
          obtain ⟨st, hst, tt, kb, x', rfl, htt, hkb, hx'⟩ := paired_get hit6 ht
          have hmem : st ∈ T'.steps b T'.n (some fo) i e.1 := List.mem_of_getElem? hst
          have hup := steps_lt hmem hiL
          have s6 := I6.same
          have htk : ((T'.steps b T'.n (some fo) i e.1).take (t + 1)).filter (fun s => clo T'.n b i s.there) = ((T'.steps b T'.n (some fo) i e.1).take t).filter (fun s => clo T'.n b i s.there) ++ (if clo T'.n b i st.there = true then [st] else []) := by
            rw [List.take_succ, hst, List.filter_append]
            congr 1
            show List.filter _ [st] = _
            rw [List.filter_cons]
            rfl
          refine ⟨tt, _, rfl, SqT.of htt, rfl, _, _, rfl, _, _, rfl, _, _, rfl, rfl, ?_⟩
          dsimp only [tSeq, tAsg]
          refine or_val (c1 := decide (st.there < T'.n)) (c2 := (b == 0 || decide (i < T'.n - b))) (fun R' q' => ?_) (fun R' q' => or_val (c1 := b == 0) (c2 := decide (i < T'.n - b)) (fun R' q' => ?_) (fun R' q' => ?_) q') ?_
          · refine ⟨_, rfl, _, rfl, a, CT, dx, _, _, rfl, s6 _ _ ha, T.clT, T.nMany, ff.many, _, _, rfl, rfl, ?_⟩
            have : decide (((st.there : Nat) : Int) < (T'.n : Int)) = decide (st.there < T'.n) := by
              by_cases z : st.there < T'.n
              · rw [decide_eq_true z, decide_eq_true (by omega)]
              · rw [decide_eq_false z, decide_eq_false (by omega)]
            dsimp only
            rw [this]
            exact q'
          · refine ⟨_, rfl, rfl, ?_⟩
            have : decide (V.int (b : Int) = V.int 0) = (b == 0) := by
              rw [dec_int]
              cases b <;> rfl
            rw [this]
            exact q'
          · refine ⟨_, rfl, _, rfl, a, CT, dx, _, _, rfl, s6 _ _ ha, T.clT, T.nMany, ff.many, _, rfl, _, _, rfl, rfl, _, _, rfl, rfl, ?_⟩
            have : decide ((i : Int) < (T'.n : Int) - (b : Int)) = decide (i < T'.n - b) := by
              by_cases z : i < T'.n - b
              · rw [decide_eq_true z, decide_eq_true (by omega)]
              · rw [decide_eq_false z, decide_eq_false (by omega)]
            dsimp only
            rw [this]
            exact q'
          dsimp only [gName]
          have ecl : (decide (st.there < T'.n) || (b == 0 || decide (i < T'.n - b))) = clo T'.n b i st.there := by
            unfold clo
            rw [Bool.or_assoc]
          rw [ecl]
          refine st_if2 (bad := clo T'.n b i st.there) (fun R' q' => ⟨_, rfl, _, rfl, q'⟩) (fun hcl' => ?_) (fun hcl' => ?_)
          · obtain ⟨dq, hdq, hdq', es6, he6, hes6⟩ := I6.at_ (q := st.there) (by omega)
            refine ⟨_, rfl, a, dx, _, rfl, s6 _ _ ha, ff.no _ (by decide +kernel), _, rfl, _, rfl, D, _, _, _, rfl, rfl, SqL.of I6.rws.lst, atI_nat hdq', _, rfl, _, rfl, a, dq, kb, T', ring, _, st.key, x', Val.plus u st, R6 st.there, rfl, hTa.keep s6, ⟨es6, he6, hes6⟩, hkb, stepKey_ok W (hes.ok e hem0) hmem, hx', fun H7 s7 hrow => ?_⟩
            have sT7 := sameX_t s7 he6
            have hne : ∀ b xs, H6 b = some (HO.lst xs) → b ≠ dq := fun b xs hb => ne_of hb he6 (by intro z; cases z)
            refine ⟨putR R6 st.there st.key (Val.plus u st), _, _, _, _, _, _, _, _, rfl, I6.put hdq s7 (by rw [putR_row]; exact hrow) (fun p hp => putR_other hp), s7 _ _ (hne _ _ hy6) hy6, s7 _ _ (hne _ _ hl6) hl6, (by rw [putR_other (by omega)]; exact hR6), fun e' he' => sT7 _ _ (hK6 e' he'), pairedStep_keepT hit6 sT7, ?_⟩
            rw [htk, if_pos hcl']
            exact ti_put hti6 (v := u) (by rw [hR6]; exact hu0) (stpR_mem.mpr ⟨hiL, hmem, hcl'⟩) hup.1
          · refine ⟨R6, _, _, _, _, _, _, _, _, rfl, I6, hy6, hl6, hR6, hK6, hit6, ?_⟩
            rw [htk, if_neg (by rw [hcl']; decide), List.append_nil]
            exact hti6
        · rintro σ H6 ⟨R6, y7, y8, y9, y10, y11, y12, y13, y14, rfl, I6, hy6, hl6, hR6, hK6, hit6, hti6⟩
          rw [Paired.length hit6, List.take_length] at hti6
          have e1 : (T'.steps b T'.n (some fo) i e.1).filter (fun s => clo T'.n b i s.there) = arStp T' b fo i e.1 := by
            unfold arStp stpR Tb.stepsC
            rw [if_pos hiL]
          rw [e1] at hti6
          refine ⟨R6, _, _, _, _, _, _, _, _, _, rfl, I6, hy6, hR6, hK6, ?_⟩
          rw [List.take_succ, hej, List.map_append]
          exact ti_out hti6
      · rintro σ H4 ⟨R4, y6, y7, y8, y9, y10, y11, y12, y13, y14, rfl, I4, hy4, hRi, hK4, hti4⟩
        rw [List.length_map, List.take_length] at hti4
        refine ⟨R4, _, _, _, _, _, _, _, _, _, _, rfl, I4, ti_next hti4 fun k v hk => ?_⟩
        rw [hRi] at hk
        obtain ⟨e, he', ek⟩ := hes.has hk
        exact List.mem_map.mpr ⟨e, perm.mem_iff.mpr he', ek⟩
    · rintro σ H3 ⟨R, y5, y6, y7, y8, y9, y10, y11, y12, y13, y14, rfl, I3, hti3⟩
      rw [Int.toNat_natCast] at hti3
      obtain ⟨snd, cmp⟩ := ti_end hti3
      have s3 := I3.same
      obtain ⟨dl, hdl1, hdl', es, he, hes⟩ := I3.at_ (q := T'.n) (by omega)
      have hsome : ∀ e ∈ es, ∃ i, e.1.1 = some i := fun e he' => by
        obtain ⟨v, hv, _⟩ := hes.mem he'
        obtain ⟨x, D', g, _⟩ := path_geo (pth_0 (snd _ _ hv))
        have := g.key
        rw [if_neg (by omega)] at this
        exact ⟨_, congrArg Prod.fst this⟩
      -- found = []
      refine ⟨Nat.zero_le _, fun l hl => ?_⟩
      have s4 := same_new (o := HO.lst []) hl
      have I4 := I3.keep s4
      refine ⟨_, rfl, _, rfl, a, CT, dx, _, _, rfl, s4 _ _ (s3 _ _ ha), T.clT, T.nMany, ff.many, D, _, _, _, rfl, rfl, SqL.of I4.rws.lst, atI_nat hdl', dl, rfl, .inr ⟨es, s4 _ _ he⟩, fun z hz => ?_⟩
      have sz := same_new (o := VW z dl) hz
      refine ⟨z, dl, es, rfl, upd_same, sz _ _ (s4 _ _ he), (hes.keepT (same_t (s4.trans sz))).keys, hsome, fun es' y perm hy => ?_⟩
      have sy := same_new (o := HO.lst (es'.map fun e => V.ref e.2.1)) hy
      have hyl : y ≠ l := fun e => by
        rw [e] at hy
        rw [sz _ _ upd_same] at hy
        cases hy
      have s34 := (s4.trans sz).trans sy
      refine ⟨y, rfl, ⟨_, SqL.of upd_same⟩, for_list (K := K) (a := y) (xs := es'.map fun e => V.ref e.2.1) (fun j σ H4 => ∃ (y5 y6 y7 y8 y9 y10 y12 y13 y14 : Option V) (items : List V) (us : List Val), σ = [some (.ref a), some (.int b), some (.int so), some (.int fo), some (.ref D), y5, y6, y7, y8, y9, y10, some (.ref l), y12, y13, y14] ∧ Same H3 H4 ∧
          H4 y = some (.lst (es'.map fun e => V.ref e.2.1)) ∧ H4 l = some (.lst items) ∧ Paired (ValAt H4) items us ∧ us.length ≤ j ∧ (∀ u ∈ us, ∃ k v, T'.RingAt b so fo k v ∧ k.2 = so ∧ T'.still b k.1 so fo = true ∧ u = closeV T' b so v) ∧
          ∀ e ∈ es'.take j, ∀ v, R T'.n e.1 = some v → e.1.2 = so → T'.still b e.1.1 so fo = true → closeV T' b so v ∈ us)
        ⟨_, _, _, _, _, _, _, _, _, [], [], rfl, s34, upd_same, sy _ _ (sz _ _ upd_same), .nil, Nat.le_refl _, fun _ h => (nomatch h), fun _ h => by simp at h⟩ (fun j σ H4 _ ⟨_, _, _, _, _, _, _, _, _, _, _, _, _, h, _⟩ => SqL.of h) ?_ ?_⟩
      · rintro j kv σ H4 hj ⟨y5, y6, y7, y8, y9, y10, y12, y13, y14, items, us, rfl, t4, hy4, hl4, hpa, hul, hsn, hcm⟩
        obtain ⟨e, hej, rfl⟩ := refs_get hj
        have hem : e ∈ es' := List.mem_of_getElem? hej
        have hem0 := perm.mem_iff.mp hem
        have hes4 := hes.keepT (same_t t4)
        obtain ⟨u, hu0, hvu⟩ := hes4.mem hem0
        have hk4 : KeyAt H4 e.1 e.2.1 := hes4.keys e hem0
        have ha4 := t4 _ _ (s3 _ _ ha)
        have hT4 := hTa.keep (s3.trans t4)
        have hj12 : j < 12 := by
          have h1 := (List.getElem?_eq_some_iff.mp hej).1
          have h2 := perm.length_eq
          have h3 := keys_bound hes.nd hes.ok
          omega
        have htk : ∀ e' ∈ es'.take (j + 1), e' ∈ es'.take j ∨ e' = e := fun e' h => by
          rw [List.take_succ, hej] at h
          simpa using h
        refine ⟨e.2.1, _, rfl, SqT.of hk4, rfl, _, _, rfl, _, _, rfl, rfl, ?_⟩
        refine st_if2 (bad := decide (e.1.2 = so) && T'.still b e.1.1 so fo) (ans_and2 (fun R' q' => ?_) (fun R' q' => ?_)) (fun hb1 => ?_) (fun hb1 => ?_)
        · refine ⟨_, rfl, _, rfl, rfl, _, rfl, ?_⟩
          have : decide (V.int e.1.2 = V.int so) = decide (e.1.2 = so) := by
            rw [dec_int]
            by_cases z : e.1.2 = so
            · rw [decide_eq_true z, z]; simp
            · rw [decide_eq_false z]; simp [z]
          rw [this]
          exact q'
        · exact ⟨_, rfl, a, dx, _, rfl, ha4, ff.no _ (by decide +kernel), _, rfl, _, rfl, _, rfl, _, rfl, a, T', ring, _, b, e.1.1, so, fo, rfl, hT4, hb, _, rfl, q'⟩
        · rw [Bool.and_eq_true, decide_eq_true_eq] at hb1
          obtain ⟨hk2, hst⟩ := hb1
          have hlenu : u.2.length = T'.n + 1 := len_path (hti3.sound _ _ _ hu0)
          refine ⟨_, rfl, .inl ⟨rfl, _, SqL.of hl4⟩, _, rfl, a, CT, dx, _, _, rfl, ha4, T.clT, T.nSums, ff.sums, sm, sx, _, rfl, t4 _ _ (s3 _ _ hsm), rfl, _, rfl, _, rfl, a, CT, dx, _, _, rfl, ha4, T.clT, T.nMany, ff.many, D, _, _, _, rfl, rfl, SqL.of (t4 _ _ I3.rws.lst), atI_nat hdl', _, rfl, _, rfl, (by show 2 ≤ sizeLine; decide), fun kb hkb => ?_⟩
          have q4 := same_new (o := HO.tup [oV e.1.1, V.int e.1.2]) hkb
          have hes5 := hes4.keepT (same_t q4)
          refine ⟨dl, es, e.1, kb, e.2.2, rfl, rfl, q4 _ _ (t4 _ _ he), hes5.keys, upd_same, lookE_of hes.nd hem0, _, rfl, a, CT, dx, _, _, rfl, q4 _ _ ha4, T.clT, T.nCosts, ff.costs, _, rfl, cs, _, _, _, rfl, rfl, SqL.of (q4 _ _ (t4 _ _ (s3 _ _ hcl))), atI_nat hc, _, rfl, d, _, rfl, hget _ ((s3.trans t4).trans q4), _, rfl, ?_⟩
          refine ⟨sm, e.2.2, u, T'.price b so, b, rfl, hvu.keep q4, ?_, by omega, by rw [List.length_dropLast]; omega, fun H5 v q5 hv => ?_⟩
          · intro z
            rw [z] at hlenu
            simp at hlenu
          have qq := q4.trans q5
          refine ⟨l, _, _, rfl, rfl, qq _ _ hl4, small1000 (by rw [Paired.length hpa]; omega), ?_⟩
          have sT : SameT H5 (upd H5 l (.lst (items ++ [v]))) := sameT_upd (qq _ _ hl4) fun xs z => by cases z
          refine ⟨_, _, _, _, _, _, _, _, _, items ++ [v], us ++ [closeV T' b so u], rfl, same_upd (t4.trans qq) hl, by rw [upd_ne hyl]; exact qq _ _ hy4, upd_same, ?_, by rw [List.length_append, List.length_singleton]; omega, fun x hx => ?_, fun e' he' v' h1 h2 h3 => ?_⟩
          · exact Paired.snoc (Paired.mapP hpa fun _ _ z => (z.keep qq).keepT sT) (hv.keepT sT)
          · rcases List.mem_append.mp hx with hx | hx
            · exact hsn x hx
            · exact ⟨e.1, u, snd _ _ hu0, hk2, hst, List.mem_singleton.mp hx⟩
          · rcases htk e' he' with h | h
            · exact List.mem_append_left _ (hcm e' h v' h1 h2 h3)
            · subst h
              rw [hu0] at h1
              cases h1
              exact List.mem_append_right _ (List.mem_singleton.mpr rfl)
        · refine ⟨_, _, _, _, _, _, _, _, _, items, us, rfl, t4, hy4, hl4, hpa, by omega, hsn, fun e' he' v' h1 h2 h3 => ?_⟩
          rcases htk e' he' with h | h
          · exact hcm e' h v' h1 h2 h3
          · subst h
            rw [h3, Bool.and_true, decide_eq_false_iff_not] at hb1
            exact absurd h2 hb1
      · rintro σ H4 ⟨y5, y6, y7, y8, y9, y10, y12, y13, y14, items, us, rfl, t4, hy4, hl4, hpa, hul, hsn, hcm⟩
        rw [List.length_map, List.take_length] at hcm
        refine ⟨_, rfl, q H4 l items us (sxa.trans (same_x (s3.trans t4) a)) (hTa.keep (s3.trans t4)) hl4 hpa ?_ ⟨hsn, fun k v hR hk hs => ?_⟩⟩
        · have h2 := perm.length_eq
          have h3 := keys_bound hes.nd hes.ok
          rw [List.length_map] at hul
          omega
        · obtain ⟨v', h1, h2⟩ := cmp k v hR
          obtain ⟨e, he', ek⟩ := hes.has h1
          subst ek
          exact ⟨_, hcm e (perm.mem_iff.mpr he') v' h1 hk hs, close_mono hb hR (snd _ _ h1) h2⟩
end
end Flk

set_option Elab.async false
set_option linter.all false
set_option maxRecDepth 100000
set_option maxHeartbeats 8000000
/-! The walk, 9: ring, value. -/
namespace Flk
open PySem PySem.Spec PyProof.Rows L2
theorem paired_append {α β : Type} {F : α → β → Prop} {xs xs' : List α} {ys ys' : List β} (p : Paired F xs ys) (p' : Paired F xs' ys') : Paired F (xs ++ xs') (ys ++ ys') := by
  induction p with
  | nil => exact p'
  | cons r t ih => exact .cons r ih
def Cov (T : Tb) (us : List Val) (b : Nat) (s f : Int) : Prop := ∀ k v, T.RingAt b s f k v → k.2 = s → T.still b k.1 s f = true → ∃ u ∈ us, vle u (closeV T b s v)
theorem Cov.more {T : Tb} {us ws : List Val} {b : Nat} {s f : Int} (h : Cov T us b s f) : Cov T (us ++ ws) b s f := fun k v h1 h2 h3 => by
  obtain ⟨u, hu, l⟩ := h k v h1 h2 h3
  exact ⟨u, List.mem_append_left _ hu, l⟩
structure RgI (CC CT : Addr) (H : Hp) (a : Addr) (T : Tb) (ring : Bool) (H1 : Hp) (l : Addr) (n : Nat) (done : Nat → Int → Int → Prop) : Prop where
  same : SameX a H H1
  tab : ∃ last, TabAt CC CT H1 a T ring last
  ex : ∃ (items : List V) (us : List Val), H1 l = some (.lst items) ∧ Paired (ValAt H1) items us ∧ us.length ≤ n ∧ (∀ u ∈ us, T.RingSet u) ∧ ∀ b s f, done b s f → Cov T us b s f
theorem sameX_lst {CC CT : Addr} {H H' : Hp} {a l : Addr} {T : Tb} {ring : Bool} {last : Option Int} {xs : List V} (t : TabAt CC CT H a T ring last) (s : SameX a H H') (h : H l = some (.lst xs)) : H' l = some (.lst xs) := by
  obtain ⟨dx, fs, hd, cs, gl, sm, ha, _⟩ := t
  exact s _ _ (ne_of h ha (by intro z; cases z)) h
theorem sameX_tup {CC CT : Addr} {H H' : Hp} {a : Addr} {T : Tb} {ring : Bool} {last : Option Int} (t : TabAt CC CT H a T ring last) (s : SameX a H H') : SameT H H' := fun b xs h => by
  obtain ⟨dx, fs, hd, cs, gl, sm, ha, _⟩ := t
  exact s _ _ (ne_of h ha (by intro z; cases z)) h
theorem RgI.keep {CC CT : Addr} {H H1 H2 : Hp} {a l : Addr} {T : Tb} {ring : Bool} {n : Nat} {done : Nat → Int → Int → Prop} (h : RgI CC CT H a T ring H1 l n done) (s : Same H1 H2) : RgI CC CT H a T ring H2 l n done := by
  obtain ⟨last, ht⟩ := h.tab
  obtain ⟨items, us, h1, h2, h3⟩ := h.ex
  exact ⟨h.same.trans (same_x s a), ⟨last, ht.keep s⟩, items, us, s _ _ h1, Paired.mapP h2 fun _ _ z => z.keep s, h3⟩
theorem RgI.mono {CC CT : Addr} {H H1 : Hp} {a l : Addr} {T : Tb} {ring : Bool} {n n' : Nat} {done done' : Nat → Int → Int → Prop} (h : RgI CC CT H a T ring H1 l n done) (hn : n ≤ n') (hd : ∀ b s f, done' b s f → done b s f) : RgI CC CT H a T ring H1 l n' done' := by
  obtain ⟨items, us, h1, h2, h3, h4, h5⟩ := h.ex
  exact ⟨h.same, h.tab, items, us, h1, h2, by omega, h4, fun b s f z => h5 b s f (hd b s f z)⟩
section
variable {P : Program} {w : World} {K : PySem.W.Frag} {mg : Str → Option Value} {base : Heap} {CC CT : Addr}
def spRing (CC CT : Addr) : Sp := fun vs H Q _ => ∃ (a : Addr) (T : Tb) (ring : Bool) (last : Option Int), vs = [.ref a] ∧ TabAt CC CT H a T ring last ∧ TabW T ∧ 1 < T.n ∧
  ∀ H' v o, SameX a H H' → IsBest T.Spec o → OptV H' v o → Q v H'
abbrev nRing : List Str := ["self", "found", "begin", "behind", "own", "first"]
theorem scRing : FnScope nRing ["self"] (defScope sRing) := ⟨rfl, rfl, rfl, by decide +kernel, rfl, by decide +kernel, by decide +kernel⟩
theorem ok_ring {f : Addr} {fd : FuncData} (F : Fun K "ring" "Table.ring" sRing f fd) (T : Txt K mg CC CT) (DA : MFn P w K mg base CT 4 "around" ["self", "begin", "own", "first"] (spAround CC CT)) (DJ : MFn P w K mg base CT 2 "joined" ["self", "some"] (spJoined CC CT)) :
    FnOk P w K mg base CX0 5 f fd ["self"] (spRing CC CT) := by
  obtain ⟨far, dar, Gar, mar, bar⟩ := DA
  obtain ⟨fjn, djn, Gjn, mjn, bjn⟩ := DJ
  refine F.ok scRing (fun vs H Q E h => ?_) (fun cdv A outer s H vs Q E hr h => ?_)
  · obtain ⟨a, T', ring, last, rfl, _⟩ := h
    rfl
  · obtain ⟨a, T', ring, last, rfl, hT, W, h1n, q⟩ := h
    have hu := hr.units
    have hr2 : Room 2 _ := hr.mono (by decide)
    have nd := scRing.nd
    have n0 := W.n0
    have n6 := W.n6
    refine ⟨_, pss_cons (ps_set (i := 1) nd rfl (Or.inl rfl) (pe_lst pa_nil))
      (pss_cons (ps_for PassesOwn.never rfl (pi_range1 (by rfl) T.zRange (pa_cons (pe_fld (pv 0) rfl) pa_nil)) (pg_name (i := 2) nd rfl (Or.inl rfl))
        (pss_cons (ps_set (i := 3) nd rfl (Or.inl rfl) (pe_op op_mod (pe_op op_add (pv 2) pe_int) (pe_fld (pv 0) rfl)))
        (pss_one (ps_for PassesOwn.never rfl (pi_list (pe_callB (cr_sortedVI rfl hu) (by rfl) T.zSorted (by decide +kernel) (pa_cons (pe_keys (pe_ix ix_list (pe_fld (pv 0) rfl) (pv 2) (fun _ _ => rfl))) pa_nil))) (pg_name (i := 4) nd rfl (Or.inl rfl))
          (pss_one (ps_for PassesOwn.never rfl (pi_list (pe_callB (cr_sortedVI rfl hu) (by rfl) T.zSorted (by decide +kernel) (pa_cons (pe_keys (pe_ix ix_list (pe_fld (pv 0) rfl) (pv 3) (fun _ _ => rfl))) pa_nil))) (pg_name (i := 5) nd rfl (Or.inl rfl))
            (pss_one (ps_set (i := 1) nd rfl (Or.inl rfl) (pe_op op_cat (pv 1) (pe_meth (pv 0) T.clT mar Gar hr bar .nil pass0 (pa_cons (pv 2) (pa_cons (pv 4) (pa_cons (pv 5) pa_nil))))))))))))) 
      (pss_one (ps_ret (pe_meth (pv 0) T.clT mjn Gjn hr2 bjn .nil pass0 (pa_cons (pv 1) pa_nil))))), ?_⟩
    refine ⟨Nat.zero_le _, fun l hl => ?_⟩
    have sl := same_new (o := HO.lst []) hl
    have I0 : RgI CC CT H a T' ring (upd H l (.lst [])) l 0 (fun b s f => False) := ⟨same_x sl a, ⟨last, hT.keep sl⟩, [], [], upd_same, .nil, Nat.le_refl _, fun _ h => (nomatch h), fun _ _ _ z => z.elim⟩
    obtain ⟨dx, fs, hd, cs, gl, sm, ha, ff, dd⟩ := id (hT.keep sl)
    refine ⟨_, rfl, a, CT, dx, _, _, rfl, ha, T.clT, T.nMany, ff.many, _, rfl, (by omega), (by omega), ?_⟩
    refine for_range (lo := 0) (n := (T'.n : Int).toNat) (fun i σ H1 => ∃ (l : Addr) (y2 y3 y4 y5 : Option V), σ = [some (.ref a), some (.ref l), y2, y3, y4, y5] ∧ RgI CC CT H a T' ring H1 l (i * 108) (fun b s f => b < i ∧ s ∈ T'.dom b ∧ f ∈ T'.dom (T'.cell b 1)))
      ⟨l, _, _, _, _, rfl, I0.mono (Nat.zero_le _) (fun b s f z => absurd z.1 (Nat.not_lt_zero _))⟩ ?_ ?_
    · rintro i σ H1 hi ⟨l, y2, y3, y4, y5, rfl, I1⟩
      have hin : i < T'.n := by omega
      rw [Int.zero_add]
      obtain ⟨last1, hT1⟩ := I1.tab
      obtain ⟨dx, fs, hd, cs, gl, sm, ha, ff, dd⟩ := id hT1
      obtain ⟨cl, hcl, hcc⟩ := dd.costs
      obtain ⟨c, hc, hC⟩ := hcc i hin
      obtain ⟨d, kvs, ns, rfl, hdd, hkv, hperm, _⟩ := hC.ex
      have e1 : ((i : Int) + 1) % (T'.n : Int) = ((T'.cell i 1 : Nat) : Int) := rfl
      refine ⟨_, rfl, _, _, rfl, rfl, _, rfl, a, CT, dx, _, _, rfl, ha, T.clT, T.nMany, ff.many, _, _, rfl, rfl, (by show (0 : Int) < (T'.n : Int); omega), ?_⟩
      dsimp only
      rw [e1]
      refine ⟨_, rfl, a, CT, dx, _, _, rfl, ha, T.clT, T.nCosts, ff.costs, _, rfl, cs, _, _, _, rfl, rfl, SqL.of hcl, atI_nat hc, d, rfl, .inl ⟨kvs, hdd⟩, fun z hz => ?_⟩
      have sz := same_new (o := VW z d) hz
      refine ⟨z, d, kvs, ns, rfl, upd_same, sz _ _ hdd, hkv, fun ns' y perm srt hy => ?_⟩
      have ens : ns' = T'.dom i := sorted_eq (perm.trans hperm) srt (W.srt _)
      have sy := sz.trans (same_new (o := HO.lst (ns'.map V.int)) hy)
      refine ⟨y, rfl, ⟨_, SqL.of upd_same⟩, for_list (K := K) (a := y) (xs := ns'.map V.int) (fun j σ H2 => ∃ (l : Addr) (y4 y5 : Option V), σ = [some (.ref a), some (.ref l), some (.int (i : Int)), some (.int ((T'.cell i 1 : Nat) : Int)), y4, y5] ∧ H2 y = some (.lst (ns'.map V.int)) ∧
          RgI CC CT H a T' ring H2 l (i * 108 + j * 36) (fun b s f => (b < i ∧ s ∈ T'.dom b ∧ f ∈ T'.dom (T'.cell b 1)) ∨ (b = i ∧ s ∈ ns'.take j ∧ f ∈ T'.dom (T'.cell b 1))))
        ⟨l, _, _, rfl, upd_same, (I1.keep sy).mono (by omega) (fun b s f z => by
          rcases z with z | ⟨_, z, _⟩
          · exact z
          · simp at z)⟩ (fun j σ H2 _ ⟨_, _, _, _, h, _⟩ => SqL.of h) ?_ ?_⟩
      · rintro j ov σ H2 hj ⟨l, y4, y5, rfl, hy2, I2⟩
        obtain ⟨so, hso, rfl⟩ := ints_get hj
        have hsm : so ∈ T'.dom i := by rw [← ens]; exact List.mem_of_getElem? hso
        have hj3 : j < 3 := by
          have := (List.getElem?_eq_some_iff.mp hso).1
          rw [ens] at this
          exact Nat.lt_of_lt_of_le this (W.dln _)
        obtain ⟨last2, hT2⟩ := I2.tab
        obtain ⟨dx, fs, hd, cs, gl, sm, ha, ff, dd⟩ := id hT2
        obtain ⟨cl, hcl, hcc⟩ := dd.costs
        obtain ⟨c, hc, hC⟩ := hcc (T'.cell i 1) (Nat.mod_lt _ n0)
        obtain ⟨d, kvs, ns, rfl, hdd, hkv, hperm, _⟩ := hC.ex
        refine ⟨_, rfl, a, CT, dx, _, _, rfl, ha, T.clT, T.nCosts, ff.costs, _, rfl, cs, _, _, _, rfl, rfl, SqL.of hcl, atI_nat hc, d, rfl, .inl ⟨kvs, hdd⟩, fun z hz => ?_⟩
        have sz := same_new (o := VW z d) hz
        refine ⟨z, d, kvs, ns, rfl, upd_same, sz _ _ hdd, hkv, fun ms' x perm2 srt2 hx => ?_⟩
        have ems : ms' = T'.dom (T'.cell i 1) := sorted_eq (perm2.trans hperm) srt2 (W.srt _)
        have sx := sz.trans (same_new (o := HO.lst (ms'.map V.int)) hx)
        refine ⟨x, rfl, ⟨_, SqL.of upd_same⟩, for_list (K := K) (a := x) (xs := ms'.map V.int) (fun t σ H3 => ∃ (l : Addr) (y5 : Option V), σ = [some (.ref a), some (.ref l), some (.int (i : Int)), some (.int ((T'.cell i 1 : Nat) : Int)), some (.int so), y5] ∧ H3 y = some (.lst (ns'.map V.int)) ∧ H3 x = some (.lst (ms'.map V.int)) ∧
            RgI CC CT H a T' ring H3 l (i * 108 + j * 36 + t * 12) (fun b s f => (b < i ∧ s ∈ T'.dom b ∧ f ∈ T'.dom (T'.cell b 1)) ∨ (b = i ∧ s ∈ ns'.take j ∧ f ∈ T'.dom (T'.cell b 1)) ∨ (b = i ∧ s = so ∧ f ∈ ms'.take t)))
          ⟨l, _, rfl, sx _ _ hy2, upd_same, (I2.keep sx).mono (by omega) (fun b s f z => by
            rcases z with z | z | ⟨_, _, z⟩
            · exact .inl z
            · exact .inr z
            · simp at z)⟩ (fun t σ H3 _ ⟨_, _, _, _, h, _⟩ => SqL.of h) ?_ ?_⟩
        · rintro t fv σ H3 ht ⟨l, y5, rfl, hy3, hx3, I3⟩
          obtain ⟨fo, hfo, rfl⟩ := ints_get ht
          have ht3 : t < 3 := by
            have := (List.getElem?_eq_some_iff.mp hfo).1
            rw [ems] at this
            exact Nat.lt_of_lt_of_le this (W.dln _)
          obtain ⟨last3, hT3⟩ := I3.tab
          obtain ⟨items, us, hl3, hpa, hul, hset, hcov⟩ := I3.ex
          obtain ⟨dx, fs, hd, cs, gl, sm, ha, ff, dd⟩ := id hT3
          refine ⟨_, rfl, _, rfl, a, dx, _, rfl, ha, ff.no _ (by decide +kernel), _, rfl, _, rfl, _, rfl, a, T', ring, last3, i, so, fo, rfl, hT3, W, hin, hsm, fun H4 l2 xs2 us2 s4 hT4 hl4 hpa2 hul2 hok => ?_⟩
          have sT := sameX_tup hT3 s4
          refine ⟨l, l2, _, _, rfl, rfl, sameX_lst hT3 s4 hl3, hl4, (by rw [Paired.length hpa, Paired.length hpa2]; exact line1000 (by omega)), fun p hp => ?_⟩
          have s5 := same_new (o := HO.lst (items ++ xs2)) hp
          refine ⟨p, _, rfl, s5 _ _ (sameX_lst hT3 s4 hy3), s5 _ _ (sameX_lst hT3 s4 hx3), (I3.same.trans s4).trans (same_x s5 a), ⟨_, hT4.keep s5⟩, items ++ xs2, us ++ us2, upd_same, ?_, by rw [List.length_append]; omega, fun u hu => ?_, fun b s f z => ?_⟩
          · exact paired_append (Paired.mapP hpa fun _ _ z => (z.keepT sT).keep s5) (Paired.mapP hpa2 fun _ _ z => z.keep s5)
          · rcases List.mem_append.mp hu with hu | hu
            · exact hset u hu
            · obtain ⟨k, v, h1, h2, h3, h4⟩ := hok.1 u hu
              exact ⟨i, so, fo, k, v, hin, hsm, by rw [← ems]; exact List.mem_of_getElem? hfo, h1, h2, h3, h4⟩
          · rcases z with z | z | ⟨z1, z2, z3⟩
            · exact (hcov b s f (.inl z)).more
            · exact (hcov b s f (.inr (.inl z))).more
            · rcases mem_take_succ hfo z3 with z3 | z3
              · exact (hcov b s f (.inr (.inr ⟨z1, z2, z3⟩))).more
              · subst z1 z2 z3
                intro k v h1 h2 h3
                obtain ⟨u, hu, hl⟩ := hok.2 k v h1 h2 h3
                exact ⟨u, List.mem_append_right _ hu, hl⟩
        · rintro σ H3 ⟨l, y5, rfl, hy3, hx3, I3⟩
          have hml : ms'.length ≤ 3 := by rw [ems]; exact W.dln _
          refine ⟨l, _, _, rfl, hy3, I3.mono (by rw [List.length_map]; omega) (fun b s f z => ?_)⟩
          rcases z with z | ⟨z1, z2, z3⟩
          · exact .inl z
          · rcases mem_take_succ hso z2 with z2 | z2
            · exact .inr (.inl ⟨z1, z2, z3⟩)
            · refine .inr (.inr ⟨z1, z2, ?_⟩)
              rw [List.length_map, List.take_length, ems, ← z1]
              exact z3
      · rintro σ H2 ⟨l, y4, y5, rfl, hy2, I2⟩
        have hml : ns'.length ≤ 3 := by rw [ens]; exact W.dln _
        refine ⟨l, _, _, _, _, rfl, I2.mono (by rw [List.length_map]; omega) (fun b s f ⟨z1, z2, z3⟩ => ?_)⟩
        by_cases e : b < i
        · exact .inl ⟨e, z2, z3⟩
        · have e : b = i := by omega
          refine .inr ⟨e, ?_, z3⟩
          rw [List.length_map, List.take_length, ens, ← e]
          exact z2
    · rintro σ H1 ⟨l, y2, y3, y4, y5, rfl, I1⟩
      rw [Int.toNat_natCast] at I1
      obtain ⟨last1, hT1⟩ := I1.tab
      obtain ⟨items, us, hl1, hpa, hul, hset, hcov⟩ := I1.ex
      obtain ⟨dx, fs, hd, cs, gl, sm, ha, ff, dd⟩ := id hT1
      refine ⟨_, rfl, a, dx, _, rfl, ha, ff.no _ (by decide +kernel), _, rfl, a, l, T', ring, last1, items, us, rfl, hT1, hl1, hpa, fun v hv => q _ v _ I1.same ?_ hv⟩
      have hlg : T'.n + 1 ≤ T'.longest := by have := W.lg; omega
      refine best_of (fun u hu' => (ring_set h1n hlg u).mp (hset u hu')) (fun v hv => ?_)
      obtain ⟨b, s, f, k, u, h1, h2, h3, h4, h5, h6, h7⟩ := (ring_set h1n hlg v).mpr hv
      subst h7
      exact hcov b s f ⟨h1, h2, h3⟩ k u h4 h5 h6
/-! ### value -/
def spValue (CC CT : Addr) : Sp := fun vs H Q _ => ∃ (a : Addr) (T : Tb) (ring : Bool) (last : Option Int), vs = [.ref a] ∧ TabAt CC CT H a T ring last ∧ TabW T ∧ (ring = true → 1 < T.n) ∧ (ring = false → T.held 0 = true ∧ T.held (T.n - 1) = true) ∧
  ∀ H' v o, SameX a H H' → IsBest T.Spec o → OptV H' v o → Q v H'
theorem scValue : FnScope ["self"] ["self"] (defScope sValue) := ⟨rfl, rfl, rfl, by decide +kernel, rfl, by decide +kernel, by decide +kernel⟩
theorem ok_value {f : Addr} {fd : FuncData} (F : Fun K "value" "Table.value" sValue f fd) (T : Txt K mg CC CT) (DR : MFn P w K mg base CT 4 "row" ["self"] (spRow CC CT)) (DG : MFn P w K mg base CT 5 "ring" ["self"] (spRing CC CT)) :
    FnOk P w K mg base CX0 6 f fd ["self"] (spValue CC CT) := by
  obtain ⟨fro, dro, Gro, mro, bro⟩ := DR
  obtain ⟨frg, drg, Grg, mrg, brg⟩ := DG
  refine F.ok scValue (fun vs H Q E h => ?_) (fun cdv A outer s H vs Q E hr h => ?_)
  · obtain ⟨a, T', ring, last, rfl, _⟩ := h
    rfl
  · obtain ⟨a, T', ring, last, rfl, hT, W, h1, h2, q⟩ := h
    have hr4 : Room 4 _ := hr.mono (by decide)
    refine ⟨_, pss_one (ps_ret (pe_ifExp (pt_val (pe_fld (pv 0) rfl)) (pe_meth0 (pv 0) T.clT mrg Grg hr brg .nil pass0) (pe_meth0 (pv 0) T.clT mro Gro hr4 bro .nil pass0))), ?_⟩
    obtain ⟨dx, fs, hd, cs, gl, sm, ha, ff, dd⟩ := id hT
    refine ⟨_, rfl, a, CT, dx, _, _, rfl, ha, T.clT, T.nRing, ff.ring, _, rfl, ?_⟩
    cases ring with
    | true => exact iteT ⟨_, rfl, a, dx, _, rfl, ha, ff.no _ (by decide +kernel), a, T', true, last, rfl, hT, W, h1 rfl, q⟩
    | false => exact iteF ⟨_, rfl, a, dx, _, rfl, ha, ff.no _ (by decide +kernel), a, T', false, last, rfl, hT, W, (h2 rfl).1, (h2 rfl).2, q⟩
end
end Flk

set_option Elab.async false
set_option linter.all false
set_option maxRecDepth 100000
set_option maxHeartbeats 4000000
/-! Rules of this proof's own, 6: o.f as a target among others; enumerate(tuple); set(tuple of ints); tuple * 1. -/
namespace Flk
open PySem PySem.Spec PyProof.Rows L2 PySem.W
section
variable {X : Cx} {pos : Pos}
def gFld (K : PySem.W.Frag) (ta : TE) (f : Str) : TG := fun v σ H Q => ta σ H fun x H1 => ∃ a C dx fs, x = .ref a ∧ H1 a = some (.ins C dx fs) ∧ Cls K C ∧ NoAttr K C f ∧ fs.length < 1000 ∧ Q σ (upd H1 a (.ins C dx (putF f v fs)))
theorem pg_fld {o : Expr} {f : Str} {ta : TE} (ho : PE X o ta) : PG X (.Attribute o f pos) (gFld X.K ta f) := by
  refine ⟨fun pins s σ H v u Q I r h => ?_⟩
  rw [assign_Attribute]
  refine wpAny_bind (wpAny_holding (thn (ho.run pins s σ H _ I h) fun ov s1 ⟨x, H1, I1, r1, a, C, dx, fs, ex, ea, c, n, l, q⟩ => ?_))
  subst ex
  obtain rfl : ov = Value.ref a := r1
  refine wpAny_bind (wpAny_standAt (wpAny_bind (wpAny_holding (setattr_ok I1 ea c n l r fun s3 I3 => ?_))))
  exact wpAny_release ⟨σ, _, I3, q⟩
end
section
variable {P : Program} {w : World} {A : Around} {E : Value → Shared → Prop} {s : Shared}
/-- set(t), t a tuple of ints -/
theorem call_set_intsT {l : Addr} {items : Array Value} {ns : List Int} {Q : Value → Shared → Prop} (hh : A.handled = none) (hl : s.heap.IsTuple l items) (hi : IntsAre items.toList ns) (hb : ns.length + 1 < scanBound)
    (h : ∀ (h' : Heap) (tk c : Nat), SetR w h' s.heap.objs.size (fun j => decide (j ∈ ns)) c → c ≤ ns.length → (∀ b o, s.heap.get? b = some o → h'.get? b = some o) → Q (.ref s.heap.objs.size) { s with heap := h', toks := tk }) :
    wpAny (model P w) A (call (.type "set") [.ref l]) Q E s := by
  have hsz : items.size = ns.length := by rw [← IntsAre.length hi, Array.length_toList]
  let so : Obj := { cls := .type "set", dict := none, data := .set #[] 0 (.fresh 0 0 (!w.params.followText "set-order")) }
  let S := s.heap.objs.size
  let g : Heap := s.heap.push so
  have up : ∀ b o, s.heap.get? b = some o → g.get? b = some o := fun b o e => Heap.get?_push_of_some _ e
  have atS : g.get? S = some so := Heap.get?_push_size _ rfl
  have hlS : l < S := by obtain ⟨o, e, _⟩ := hl; exact Heap.lt_size e
  have gsz : g.objs.size = S + 1 := Heap.size_push ..
  refine call_checked (Q1 := fun obj s1 => obj = .ref S ∧ s1 = { s with heap := g }) F.called_set (F.typeCall_set_1 _) F.entry_set_init (code_set_led1 _ ⟨rfl, rfl⟩) fun obj s1 h1 => ?_
  obtain ⟨rfl, rfl⟩ := h1
  have hT : Shared.TypeIs { s with heap := g } (.ref S) "set" := ⟨_, atS, rfl⟩
  refine ⟨hT, fun A' R E' hr => check_set_init_1 hT hr, ?_⟩
  obtain ⟨ol, hol, hcl, nl, hdl⟩ := hl
  have hl1 : g.IsTuple l items := ⟨ol, up _ _ hol, hcl, nl, hdl⟩
  obtain ⟨oc, odi, oda, osl⟩ := ol
  simp only at hcl hdl
  subst hcl; subst hdl
  have hol1 : g.get? l = some { cls := .type "tuple", dict := odi, data := .seq items nl, slots := osl } := up _ _ hol
  have q1 := F.sub_tuple_set
  have q2 := F.sub_tuple_frozenset
  have q3 : (Value.type "tuple" == Value.type "dict") = false := by decide
  unfold Builtin.«set.__init__» noKeywords Builtin.Frozenset.updateFrom
  generalize hPI : pyIter = PI
  wp_walk
  subst hPI
  refine wpAny_pyIter_tuple hl1 ?_
  refine wpAny_bind (wpAny_runValue ?_)
  have neI : l ≠ g.objs.size := by rw [gsz]; exact Nat.ne_of_lt (Nat.lt_succ_of_lt hlS)
  have hSf : S ∉ [g.objs.size, l] := by
    rw [gsz]
    simp only [List.mem_cons, List.not_mem_nil, or_false, not_or]
    exact ⟨Nat.ne_of_lt (Nat.lt_succ_self _), Nat.ne_of_gt hlS⟩
  have hval : ∀ (i : Nat) (v : Value), items[i]? = some v → ∃ k t, ns[i]? = some k ∧ v = .int k t := fun i v hv => by
    have hlt : i < ns.length := by rw [← hsz]; exact (Array.getElem?_eq_some_iff.mp hv).1
    obtain ⟨t, e⟩ := PyProof.Rows.IntsAre.int_at hi i v (by rw [Array.getElem?_toList]; exact hv)
    refine ⟨ns[i], t, List.getElem?_eq_getElem hlt, ?_⟩
    rw [e, List.getD_eq_getElem?_getD, List.getElem?_eq_getElem hlt]
    rfl
  refine set_update_ints ((Walks.tuple (by simp [hh]) _ l neI items).toS) S hSf ns hsz hb hval (items.size - 0) 0 _ (by omega) (Nat.zero_le _) ⟨⟨_, Heap.get?_push_size _ rfl, rfl, rfl⟩, hl1.push _⟩ ⟨0, Nat.le_refl 0, setR_new_at (Heap.get?_push_of_some _ atS)⟩ fun s2 c hm hc hS => ?_
  obtain ⟨h2, g2, d2, t2, o2⟩ := s2
  obtain rfl : g2 = s.gens := hm.gens
  obtain rfl : d2 = s.drawn := hm.drawn
  obtain rfl : o2 = s.os := hm.os
  show wpAny _ _ _ _ _ _
  refine wpAny_pure ?_
  show wpAny _ _ (ret Value.none) _ _ _
  refine wpAny_pure ⟨rfl, h h2 t2 c hS (by omega) fun b o e => hm.heap b o (fun hmem => ?_) (Heap.get?_push_of_some _ (up b o e))⟩
  have hlt := Heap.lt_size e
  rw [gsz] at hmem
  simp only [List.mem_cons, List.not_mem_nil, or_false] at hmem
  rcases hmem with hmem | hmem
  · rw [hmem] at hlt; exact absurd hlt (Nat.lt_irrefl _)
  · rw [hmem] at hlt; exact absurd hlt (Nat.not_lt.mpr (Nat.le_succ _))
end
section
variable {X : Cx}
/-- set(t), t a tuple of ints -/
def rSetOfTI (K : PySem.W.Frag) (w : World) : List V → Hp → VK → Prop := fun xs H Q => ∃ (a : Addr) (ns : List Int), xs = [V.ref a] ∧ SqT K H a (ns.map V.int) ∧ ns.length ≤ 1000 ∧
  ∀ p c, H p = none → c ≤ ns.length → Q (.ref p) (upd H p (SetO w p (fun j => decide (j ∈ ns)) c))
theorem cr_setOfTI (hc : X.calm = true) : CallR X (.type "set") (rSetOfTI X.K X.w) := by
  intro pins s σ H xs us Q I r h
  obtain ⟨a, ns, rfl, ha, hlen, q⟩ := h
  obtain rfl := Vals.ref1 r
  obtain ⟨its, rv, pl, hz⟩ := I.tuple ha
  have hi : IntsAre its.toArray.toList ns := by simpa using rv.ints
  refine call_set_intsT (I.ok.hd hc) (show s.heap.IsTuple a its.toArray from pl) hi (by unfold scanBound; omega) fun h' tk c R hcn k => ?_
  exact ⟨.ref s.heap.objs.size, _, I.laid (a := s.heap.objs.size) (o := SetO X.w s.heap.objs.size (fun j => decide (j ∈ ns)) c) (t' := tk) k (Nat.le_refl _) (setO_new R), rfl, q _ c (I.hok.fresh (Nat.le_refl _)) hcn⟩
end
/-! ### enumerate(tuple) -/
theorem meets_enumT {v : Value} {o : Obj} {H : Heap → Prop} (B : Begins v o H) :
    Meets (Builtin.«enumerate.__new__» ⟨[.type "enumerate", v], []⟩) (fun _ R s => H s.heap ∧
      R (.ok (.ret (.ref (s.heap.push o).objs.size))) { s with heap := (s.heap.push o).push { cls := .type "enumerate", data := .fields #[.none, .bool false, .ref s.heap.objs.size, rawInt 0, .none, .none] } }) :=
  .of_wp fun prog w A R s h => by
    obtain ⟨hp, g, d, tk, os⟩ := s; obtain ⟨h1, h⟩ := h
    have hsub := sub_enumerate
    have q1 : ∀ {A' : Around} {E : Value → Shared → Prop} {Q : Value → Shared → Prop}, Q (.ref hp.objs.size) ⟨hp.push o, g, d, tk, os⟩ → wpAny (model prog w) A' (pyIter v) Q E ⟨hp, g, d, tk, os⟩ :=
      fun q => B.iter prog w _ _ ⟨hp, g, d, tk, os⟩ _ h1 q
    wp_walk using q1
    refine wpAny_stack_any fun st => wpAny_pure ?_
    split
    · rename_i c _ _ _ _ _
      cases (c == Value.type "enumerate")
      · wp_walk using q1
        exact ⟨_, rfl, h⟩
      · wp_walk using q1
        exact ⟨_, rfl, h⟩
    · wp_walk using q1
      exact ⟨_, rfl, h⟩
section
variable {prog : Program} {w : World} {A : Around} {E : Value → Shared → Prop} {s : Shared}
theorem call_enumT {v : Value} {o : Obj} {H : Heap → Prop} {Q : Value → Shared → Prop} (B : Begins v o H) (h1 : H s.heap)
    (h : ∀ h', IsEnum h' (s.heap.objs.size + 1) s.heap.objs.size 0 .none → h'.get? s.heap.objs.size = some o → h'.objs.size = s.heap.objs.size + 2 →
      (∀ b o, s.heap.get? b = some o → h'.get? b = some o) → Q (.ref (s.heap.objs.size + 1)) { s with heap := h' }) :
    wpAny (model prog w) A (call (.type "enumerate") [v]) Q E s := by
  refine callType_new F.called_enumerate (by decide) (F.typeCall_enumerate_1 _) (F.newCall_enumerate_1 _) (fun obj => F.args_object_init_2 obj _) F.entry_enumerate_new
    (meets_enumT B) ⟨h1, ?_⟩
  have hz : (s.heap.push o).objs.size = s.heap.objs.size + 1 := Heap.size_push ..
  show _ ∧ _
  rw [hz]
  have he : IsEnum ((s.heap.push o).push { cls := .type "enumerate", data := .fields #[.none, .bool false, .ref s.heap.objs.size, rawInt 0, .none, .none] }) (s.heap.objs.size + 1) s.heap.objs.size 0 .none := by
    have := Heap.get?_push_size (s.heap.push o) (o := { cls := .type "enumerate", data := .fields #[.none, .bool false, .ref s.heap.objs.size, rawInt 0, .none, .none] }) rfl
    rw [hz] at this; exact this
  refine ⟨⟨_, he, rfl⟩, h _ he (Heap.get?_push_of_some _ (Heap.get?_push_size _ B.free)) (by rw [Heap.size_push, hz]) fun b o x => Heap.get?_push_of_some _ (Heap.get?_push_of_some _ x)⟩
end
section
variable {prog : Program} {w : World} {A : Around} {E : Value → Shared → Prop} {s : Shared}
theorem enumT_end {e it l : Addr} {i : Nat} {items : Array Value} {old : Value} {Q : Option Value → Shared → Prop} (hh : A.handled = none)
    (he : IsEnum s.heap e it i old) (hit : s.heap.IsTupleIter it l i) (hl : s.heap.IsTuple l items) (hx : items[i]? = none)
    (hQ : ∀ h', Heap.ExtBut it s.heap h' → Q none { s with heap := h' }) : wpAny (model prog w) A (pyNext (.ref e)) Q E s := by
  have hT : s.TypeIs (.ref e) "enumerate" := ⟨_, he, rfl⟩
  unfold pyNext
  refine wpAny_bind (wpAny_attempt (wpAny_callSpecial?_slot (name := Str.ofString "__next__") hT F.slot_enumerate_next
    (wpAny_call_entry F.slot_enumerate_next hT F.entry_enumerate_next ?_ (F.args_enumerate_next_1 _))))
  show wpAny _ _ (field (.ref e) 2 >>= _) _ _ _
  refine wpAny_bind (wpAny_field he rfl (x := .ref it) rfl ?_)
  refine wpAny_bind (wpAny_nextOf_tuple_end hh hit hl hx fun h' x he' hx' => ?_)
  obtain ⟨o, ho, hc⟩ := hx'
  refine wpAny_bind (wpAny_isInstance (T := "StopIteration") (b := true) ⟨o, ho, hc⟩ isSubtype_stop ?_)
  exact wpAny_pure (hQ _ he')
end
def IteT (K : PySem.W.Frag) (a : Addr) : It :=
  ⟨fun i H => ∃ (xs : List V) (x : V), SqT K H a xs ∧ xs[i]? = some x, fun i H v H' => ∃ T x, v = .ref T ∧ H T = none ∧ H' = upd H T (.tup [.int (i : Nat), x]) ∧ ∀ xs, SqT K H a xs → xs[i]? = some x, fun i H => ∃ xs : List V, SqT K H a xs ∧ xs.length ≤ i⟩
theorem turn_enumT {P : Program} {w : World} {K : PySem.W.Frag} {elts : List Expr} {kk : Nat} {tpos : Pos} (a e it : Addr) :
    Turn P w K (.Tuple elts kk tpos) (IteT K a) [e, it] e (fun i h => (∃ old, IsEnum h e it ((i : Nat) : Int) old) ∧ h.IsTupleIter it a i ∧ e ≠ it ∧ e ≠ a ∧ a ≠ it) where
  mem := by simp
  obj := fun i h st b hb => by
    obtain ⟨⟨old, he⟩, ⟨o, ho, hc, hd⟩, _⟩ := st
    have e' : b = e ∨ b = it := by simpa using hb
    rcases e' with z | z
    · rw [z]; exact ⟨_, he, fun v q => nomatch q⟩
    · rw [z]; exact ⟨o, ho, fun v q => by rw [hd] at q; cases q⟩
  keep := fun i h h' st k => let ⟨⟨old, he⟩, hi, hne⟩ := st; ⟨⟨old, k e (by simp) _ he⟩, hi.at fun o q => k it (by simp) o q, hne⟩
  item := by
    intro X hP hw hK hc i pins s σ H E I hf st hg
    subst hP hw hK
    obtain ⟨⟨old, he⟩, hit, hne, hea, hai⟩ := st
    obtain ⟨xs, x, hq, hx⟩ := hg
    obtain ⟨its, rv, p, hz⟩ := I.tuple hq
    obtain ⟨u, hu, ru⟩ := rv.get hx
    have hel : e < s.heap.objs.size := Heap.lt_size he
    have hil : it < s.heap.objs.size := by obtain ⟨_, q, _⟩ := hit; exact Heap.lt_size q
    have hlt : i < its.toArray.size := by
      have := (List.getElem?_eq_some_iff.mp hu).1
      simpa using this
    have hhd : X.A.in1.handled = none := by
      have := I.ok.hd hc
      exact this
    refine wpAny_pyNext_enum_itemD (Draws.tuple hhd it a hai its.toArray) he ⟨hit, (show s.heap.IsTuple a its.toArray from p)⟩ hlt hne (by simp [hne, hea]) fun x' h' tk hP ho hst' hT hsz hk => ?_
    have hu' : x' = u := by
      have : its.toArray[i]? = some u := by simpa using hu
      rw [this] at hP
      exact (Option.some.inj hP).symm
    subst hu'
    refine ⟨_, rfl, wpAny_letOwnedTupleGo_enum (s := { s with heap := h', toks := tk + 1 }) ho fun h'' he' sb => ?_⟩
    have hT2 : h''.get? s.heap.objs.size = some { cls := .type "tuple", data := .seq #[.int i tk, x'] } := (sb.2 _ (Nat.ne_of_gt hel)).trans hT
    have new : ObjOk X.prog X.w (upd H s.heap.objs.size (.tup [.int (i : Nat), x])) h'' s.heap.objs.size (.tup [.int (i : Nat), x]) :=
      ⟨by show 2 ≤ sizeLine; decide, [.int i tk, x'], .cons ⟨_, rfl⟩ (.cons ru .nil), ⟨_, hT2, rfl, _, rfl⟩⟩
    have I1 : Inv X pins σ (upd H s.heap.objs.size (.tup [.int (i : Nat), x])) { s with heap := h'', toks := tk + 1 } :=
      I.turnedNew (ch := [e, it]) (fun b ob hb q => (sb.2 b (fun z => hb (by simp [z]))).trans (hk b ob (fun z => hb (by simp [z])) (fun z => hb (by simp [z])) q)) hf (Nat.le_refl _) new
    refine ⟨.ref s.heap.objs.size, _, I1, rfl, ⟨_, x, rfl, I.hok.fresh (Nat.le_refl _), rfl, fun ys hy => by rw [I.tuple_inj hy hq]; exact hx⟩, ⟨⟨x', ?_⟩, hst'.1.at fun o q => (sb.2 it (Ne.symm hne)).trans q, hne, hea, hai⟩, fun b hb => ?_⟩
    · have e1 : ((i + 1 : Nat) : Int) = (i : Int) + 1 := by omega
      rw [e1]; exact he'
    · have hb' : b < s.heap.objs.size := by
        have e' : b = e ∨ b = it := by simpa using hb
        rcases e' with z | z
        · rw [z]; exact hel
        · rw [z]; exact hil
      rw [upd_ne (Nat.ne_of_lt hb')]
      exact (hf b hb).1
  done := by
    intro X hP hw hK hc i pins s σ H E I hf st hg
    subst hP hw hK
    obtain ⟨⟨old, he⟩, hit, hne, hea, hai⟩ := st
    obtain ⟨xs, hq, hx⟩ := hg
    obtain ⟨its, rv, p, hz⟩ := I.tuple hq
    obtain ⟨f0, f1, f2, f3, f4, f5⟩ := hf it (by simp)
    have hl := rv.length
    exact enumT_end (I.ok.hd hc) he hit (show s.heap.IsTuple a its.toArray from p) (by simp; omega) fun h' eb => ⟨rfl, I.turned (t' := s.toks) (fun b o hb q => eb b o hb q) f0 f1 f3 f4 f5⟩
  self := fun A i s Q E st h => let ⟨⟨_, he⟩, _⟩ := st; wpAny_pyIter_enum he h
def iEnumT (K : PySem.W.Frag) (ta : TA) : L2.TI := fun σ H R => ta σ H fun vs H1 => ∃ a xs, vs = [.ref a] ∧ SqT K H1 a xs ∧ R (IteT K a) H1
theorem pi_enumT {X : Cx} {e : Expr} {ta : TA} {p pos tpos : Pos} {elts : List Expr} {kk : Nat} (hg : Gl X "enumerate") (hm : X.mg "enumerate" = none) (ha : PA X [e] ta) (hs : starEach [e] X.env = [(false, eval e X.env)] := by rfl) :
    PI X (.Tuple elts kk tpos) (.Call (.Name "enumerate" p) [e] [] pos) (iEnumT X.K ta) := by
  refine ⟨fun pins s σ H R I h => ?_⟩
  refine Call_ (ld_blt I hg hm boot_enumerate (PyProof.Rows.callWith_type1 (thn (ha.run pos pins s σ H _ I h) fun us s1 ⟨vs, H1, I1, r1, q1⟩ => ?_) hs rfl))
  obtain ⟨a, xs, ex, hq, q⟩ := q1
  subst ex
  cases r1 with
  | cons r rr =>
    cases rr
    cases r
    obtain ⟨its, rv, p', hz⟩ := I1.tuple hq
    have hal : a < s1.heap.objs.size := by obtain ⟨_, q', _⟩ := id p'; exact Heap.lt_size q'
    refine call_enumT (begins_tuple a its.toArray) (show s1.heap.IsTuple a its.toArray from p') fun h' he hit hsz hk => wpAny_pyIter_enum he ?_
    have I2 : Inv X pins σ H1 { s1 with heap := h' } := I1.kept (t' := s1.toks) hk
    refine ⟨s1.heap.objs.size + 1, [s1.heap.objs.size + 1, s1.heap.objs.size], _, _, H1, rfl, I2, turn_enumT a (s1.heap.objs.size + 1) s1.heap.objs.size, ⟨⟨.none, he⟩, ⟨_, hit, rfl, rfl⟩, Nat.succ_ne_self _, Nat.ne_of_gt (Nat.lt_succ_of_lt hal), Nat.ne_of_lt hal⟩, fun b hb => ?_, q⟩
    have e' : b = s1.heap.objs.size + 1 ∨ b = s1.heap.objs.size := by simpa using hb
    have hle : s1.heap.objs.size ≤ b := by
      rcases e' with z | z
      · rw [z]; exact Nat.le_add_right _ _
      · rw [z]; exact Nat.le_refl _
    exact I1.fpOk hle (I1.hok.fresh hle)
/-- a loop over enumerate of a tuple -/
theorem for_enumT {K : PySem.W.Frag} {a : Addr} {xs : List V} {g : TG} {tb : TS} {D : Ends} {σ : L2.St} {H : Hp} (Pv : Nat → L2.St → Hp → Prop) (h0 : Pv 0 σ H) (hq : ∀ i σ H, Pv i σ H → SqT K H a xs)
    (hs : ∀ (i : Nat) (x : V) (T : Addr) (σ : L2.St) (H : Hp), xs[i]? = some x → Pv i σ H → H T = none → g (.ref T) σ (upd H T (.tup [.int (i : Nat), x])) fun σ2 H2 => tb { D with nx := Pv (i + 1), ct := Pv (i + 1), bk := D.nx } σ2 H2) (hd : ∀ σ H, Pv xs.length σ H → D.nx σ H) :
    ∃ W : Nat → Nat → L2.St → Hp → Prop, (∃ m, W 0 m σ H) ∧ ∀ i m σ H, W i m σ H →
      ((IteT K a).stop i H ∧ D.nx σ H) ∨ ((IteT K a).go i H ∧ ∃ N : L2.St → Hp → Prop, (∀ σ' H', N σ' H' → ∃ m', m' < m ∧ W (i + 1) m' σ' H') ∧ ∀ v H', (IteT K a).yld i H v H' → g v σ H' fun σ2 H2 => tb { D with nx := N, ct := N, bk := D.nx } σ2 H2) := by
  refine ⟨fun i m σ H => m = xs.length - i ∧ i ≤ xs.length ∧ Pv i σ H, ⟨xs.length, rfl, Nat.zero_le _, h0⟩, ?_⟩
  rintro i m σ H ⟨rfl, hi, p⟩
  have qx := hq i σ H p
  by_cases hlt : i < xs.length
  · have hx : xs[i]? = some xs[i] := List.getElem?_eq_getElem hlt
    refine .inr ⟨⟨xs, xs[i], qx, hx⟩, Pv (i + 1), fun σ' H' p' => ⟨xs.length - (i + 1), by omega, rfl, hlt, p'⟩, ?_⟩
    rintro v H' ⟨T, x, rfl, hT, rfl, h1⟩
    exact hs i x T σ H (h1 xs qx) p hT
  · have e : i = xs.length := by omega
    subst e
    exact .inl ⟨⟨xs, qx, Nat.le_refl _⟩, hd σ H p⟩
/-! ### tuple * 1 -/
theorem tuple_mul1 (l : Addr) (items : Array Value) (n : Nat) (sl : Array (Option Value)) (dd : Option Addr) (u : Tok) :
    Meets (Builtin.«tuple.__mul__» ⟨[.ref l, .int 1 u], []⟩) (fun _ R s => s.heap.get? l = some { cls := .type "tuple", dict := dd, data := .seq items n, slots := sl } ∧ R (.ok (.ret (Value.ref l))) s) :=
  .of_wp fun prog w A R s h => by
    obtain ⟨hp, g, d, tk, os⟩ := s
    obtain ⟨hl, h⟩ := h
    have f1 := AutoSeq1.idx_int
    have c0 : (decide ((1 : Int) < -(2 ^ 63)) || decide ((1 : Int) ≥ 2 ^ 63)) = false := by decide
    have c1 : (items.isEmpty || (1 : Int) == 1) = true := by simp
    wp_walk using AutoSeq1.wpAny_loadPart' hl
    repeat (first
      | (refine wpAny_ite_false (decide_eq_false (by rw [c0]; exact Bool.false_ne_true)) ?_; wp_walk using AutoSeq1.wpAny_loadPart' hl)
      | (refine wpAny_ite_true (decide_eq_true (by rw [c1])) ?_; wp_walk using AutoSeq1.wpAny_loadPart' hl))
    exact ⟨_, rfl, h⟩
theorem flat_one {α : Type} (z : α) : ∀ k : Nat, (List.replicate k [z]).flatten = List.replicate k z
  | 0 => rfl
  | k + 1 => by rw [List.replicate_succ, List.flatten_cons, flat_one z k, List.replicate_succ]; rfl
/-- (v,) * k -/
def rRepA : R2 := fun x y H Q => ∃ (l : Addr) (k : Nat) (v : V), x = .ref l ∧ y = .int k ∧ H l = some (.tup [v]) ∧ 1 ≤ k ∧ k ≤ 1000 ∧ ∀ p H', (∀ b o, H b = some o → H' b = some o) → H' p = some (.tup (List.replicate k v)) → Q (.ref p) H'
theorem op_repA {X : Cx} : OpR X (binaryOp .Mult) rRepA := by
  intro pins s σ H x y v u Q I rx ry h
  obtain ⟨l, k, z, rfl, rfl, hT, h1, h2, q⟩ := h
  by_cases e : k = 1
  · subst e
    cases rx
    obtain ⟨t, rfl⟩ := ry
    obtain ⟨its, r, ⟨⟨cls, dd, data, sl⟩, ho, hc, n, hd⟩, hs⟩ := I.tuple (SqT.of hT)
    simp only at hc hd
    subst hc hd
    refine wpAny_binaryOp_repeat_ref (T := "tuple") (U := "int") (by decide) ⟨_, ho, rfl⟩ (fun s' => typeIs_int s' _ t) noFill_tuple_mul F.fills_int_mul F.slot_int_rmul repeat_tuple F.slot_int_index.lookup
      (call_meets F.slot_int_rmul (typeIs_int s _ t) F.entry_int_rmul (F.args_int_rmul_2 _ _) (int_rmul_tuple _ t l its.toArray n dd sl)
        ⟨ho, rfl, ⟨_, ho, rfl⟩, call_meets F.slot_tuple_mul ⟨_, ho, rfl⟩ F.entry_tuple_mul (F.args_tuple_mul_2 _ _) (tuple_mul1 l its.toArray n sl dd t) ⟨ho, ?_⟩⟩)
    exact ⟨.ref l, H, I, rfl, q l H (fun _ _ z => z) hT⟩
  · refine op_repT pins s σ H _ _ v u Q I rx ry ⟨l, k, [z], rfl, rfl, SqT.of hT, by simp, by omega, by omega, (by show 1 ≤ 1000; decide), fun p hp => ?_⟩
    refine q p _ (fun b o e => by rw [upd_ne (ne_of_none e hp)]; exact e) ?_
    rw [upd_same, Int.toNat_natCast]
    rw [flat_one]
end Flk

set_option Elab.async false
set_option linter.all false
set_option maxRecDepth 100000
set_option maxHeartbeats 8000000
/-! The walk, 10: the checks. -/
namespace Flk
open PySem PySem.Spec PyProof.Rows L2
theorem lay_ints : ∀ ns : List Int, PyData.canLayAll0 (ns.map PyData.int) = true
  | [] => rfl
  | n :: ns => by rw [List.map_cons, PyData.canLayAll0, lay_ints ns]; rfl
theorem shaped_ints (ns : List Int) : SeqAt.shaped (.list (ns.map PyData.int)) = true := by
  unfold SeqAt.shaped
  rw [PyData.canLay0, lay_ints, PyData.depth, depth_ints]
  rfl
theorem dpAll_ints {K : PySem.W.Frag} {H : Hp} : ∀ ns : List Int, DpAll K H (ns.map V.int) (ns.map PyData.int)
  | [] => .nil
  | n :: ns => .cons (.int n) (dpAll_ints ns)
theorem dp_ints {K : PySem.W.Frag} {H : Hp} {a : Addr} {ns : List Int} (h : H a = some (.lst (ns.map V.int))) : Dp K H (.ref a) (.list (ns.map PyData.int)) := .lst (SqL.of h) (dpAll_ints ns)
theorem dp_nil {K : PySem.W.Frag} {H : Hp} {a : Addr} (h : H a = some (.lst [])) : Dp K H (.ref a) (.list []) := .lst (SqL.of h) .nil
theorem eqv_ints : ∀ ns : List Int, PyData.eqv (.list (ns.map PyData.int)) (.list (ns.map PyData.int)) = true := fun ns => SeqAt.eqv_refl _ (by rw [PyData.canLay0, lay_ints])
theorem sorted_ext : ∀ {a b : List Int}, a.Pairwise (· < ·) → b.Pairwise (· < ·) → (∀ k, k ∈ a ↔ k ∈ b) → a = b := by
  intro a
  induction a with
  | nil =>
    intro b _ _ h
    cases b with
    | nil => rfl
    | cons x b => exact absurd ((h x).mpr List.mem_cons_self) (by simp)
  | cons x a ih =>
    intro b ha hb h
    cases b with
    | nil => exact absurd ((h x).mp List.mem_cons_self) (by simp)
    | cons y b =>
      rw [List.pairwise_cons] at ha hb
      have hx := (h x).mp List.mem_cons_self
      have hy := (h y).mpr List.mem_cons_self
      have e : x = y := by
        rcases List.mem_cons.mp hx with e | hx
        · exact e
        · rcases List.mem_cons.mp hy with e | hy
          · exact e.symm
          · have h1 := ha.1 y hy
            have h2 := hb.1 x hx
            omega
      subst e
      rw [ih ha.2 hb.2 fun k => ?_]
      constructor
      · intro hk
        rcases List.mem_cons.mp ((h k).mp (List.mem_cons_of_mem _ hk)) with e | z
        · have := ha.1 k hk; omega
        · exact z
      · intro hk
        rcases List.mem_cons.mp ((h k).mpr (List.mem_cons_of_mem _ hk)) with e | z
        · have := hb.1 k hk; omega
        · exact z
structure LineIn (H : Hp) (t c h : Addr) (cells held : List Int) (ring : Bool) : Prop where
  at_ : H t = some (.tup [.ref c, .ref h, .bl ring])
  cs : H c = some (.tup (cells.map V.int))
  hs : H h = some (.tup (held.map V.int))
theorem LineIn.keep {H H' : Hp} {t c h : Addr} {cells held : List Int} {ring : Bool} (l : LineIn H t c h cells held ring) (s : Same H H') : LineIn H' t c h cells held ring := ⟨s _ _ l.at_, s _ _ l.cs, s _ _ l.hs⟩
structure LineOk (cells held : List Int) (ring : Bool) : Prop where
  len1 : 1 ≤ cells.length
  len6 : cells.length ≤ 6
  ring : ring = true → 3 ≤ cells.length
  cell : ∀ c ∈ cells, 0 ≤ c ∧ c < 3
  srt : held.Pairwise (· < ·)
  hld : ∀ k ∈ held, 0 ≤ k ∧ k < cells.length
section
variable {P : Program} {w : World} {K : PySem.W.Frag} {mg : Str → Option Value} {base : Heap} {CC CT : Addr}
/-! ### is_cells -/
def spIsCells : Sp := fun vs H Q _ => ∃ (n : Nat) (h : Addr) (held : List Int), vs = [.int n, .ref h] ∧ H h = some (.tup (held.map V.int)) ∧ held.Pairwise (· < ·) ∧ (∀ k ∈ held, 0 ≤ k ∧ k < n) ∧ n ≤ 40 ∧ ∀ H', Same H H' → Q (.bl true) H'
abbrev nIsCells : List Str := ["many", "value", "x"]
theorem scIsCells : FnScope nIsCells ["many", "value"] (defScope sIsCells) := ⟨rfl, rfl, rfl, by decide +kernel, rfl, by decide +kernel, by decide +kernel⟩
theorem ok_is_cells {f : Addr} {fd : FuncData} (F : Fun K "is_cells" "is_cells" sIsCells f fd) (T : Txt K mg CC CT) (D : GFn P w K mg base 1 "is_in" ["value", "least", "most"] spIsIn) : FnOk P w K mg base CX0 2 f fd ["many", "value"] spIsCells := by
  obtain ⟨g, gd, GI, mI, kI, bI⟩ := D
  refine F.ok scIsCells (fun vs H Q E h => ?_) (fun cdv A outer s H vs Q E hr h => ?_)
  · obtain ⟨n, h', held, rfl, _⟩ := h
    rfl
  · obtain ⟨n, h, held, rfl, hh, srt, hld, hn, q⟩ := h
    have hu := hr.units
    have nd := scIsCells.nd
    refine ⟨_, pss_cons (ps_if (PW.pt (pw_or (pt_not (pt_val (pe_callB call_isi (by rfl) T.zInst (by decide +kernel) (pa_cons (pv 1) (pa_cons (pe_bltn (v := .ty "tuple") (by rfl) T.zTuple (by decide +kernel) rfl) pa_nil)))))
        (pw_or1 (pt_cmpR (op_neD hu) (pe_lc (own := [("x", 2)]) (g := gName 2) (tt := tNot (tB (tCall spIsIn [] E0 (tCons (tVar 2) (tCons (tC (.int 0)) (tCons (tOp (rI0 fun i j => .int (i - j)) (tVar 0) (tC (.int 1))) tNil)))))) rfl nd (pi_tup (pv 1))
          (blkOk_by (own := [("x", 2)]) (N := nIsCells) (sc := defScope sIsCells) (by decide +kernel)) (fun _ _ _ _ _ => pg_name (i := 2) nd rfl (Or.inl rfl))
          (fun _ _ _ _ _ => pts_one (pt_not (pt_val (pe_call GI hr (by rfl) mI kI bI .nil pass0 (pa_cons (pv 2) (pa_cons pe_int (pa_cons (pe_op op_sub (pv 0) pe_int) pa_nil)))))))
          (fun _ _ _ _ _ => pv 2)) (pe_lst pa_nil) (nomark _))))) (pss_one (ps_ret pe_bl)) pss_nil)
      (pss_one (ps_ret (pe_cmpR (op_eqD hu) (pe_callTy call_list_of (by rfl) T.zList (by decide +kernel) (pa_cons (pv 1) pa_nil))
        (pe_callB (cr_sortedSet rfl) (by rfl) T.zSorted (by decide +kernel) (pa_cons (pe_callTy (cr_setOfTI rfl) (by rfl) T.zSet (by decide +kernel) (pa_cons (pv 1) pa_nil)) pa_nil)) (nomark _)))), ?_⟩
    refine ⟨_, rfl, _, _, _, _, true, rfl, .ty _, .base (.tup hh), kit_ty (by decide +kernel), _, rfl, iteF ?_⟩
    refine ⟨_, rfl, h, rfl, ⟨_, SqT.of hh⟩, fun D hD => lc_tup (K := K) (a := h) (xs := held.map V.int) (fun i H1 => Same H H1 ∧ H1 D = some (.lst [])) ⟨same_new hD, upd_same⟩ (fun i H1 _ p => SqT.of (p.1 _ _ hh)) ?_ ?_⟩
    · rintro i x H1 hi ⟨s1, hD1⟩
      obtain ⟨k, hk, rfl⟩ := ints_get hi
      have := hld k (List.mem_of_getElem? hk)
      refine ⟨rfl, _, rfl, _, rfl, _, _, rfl, rfl, k, 0, _, rfl, ?_⟩
      have e : decide ((0 : Int) ≤ k ∧ k ≤ (n : Int) - 1) = true := decide_eq_true ⟨this.1, by omega⟩
      exact ⟨true, by rw [e], s1, hD1⟩
    · rintro H1 ⟨s1, hD1⟩
      refine ⟨Nat.zero_le _, fun z hz => ⟨_, _, dp_nil (same_new hz _ _ hD1), dp_nil upd_same, rfl, rfl, _, rfl, iteE rfl ?_⟩⟩
      have s2 := s1.trans (same_new (o := HO.lst []) hz)
      refine ⟨_, rfl, h, _, rfl, .inr (SqT.of (s2 _ _ hh)), fun l hl => ?_⟩
      have s3 := s2.trans (same_new (o := HO.lst (held.map V.int)) hl)
      have h40 : held.length ≤ 40 := by
        have := nodup_bound n (held.map Int.toNat) ?_ ?_
        · rw [List.length_map] at this; omega
        · rw [List.nodup_iff_pairwise_ne, List.pairwise_map]
          refine List.Pairwise.imp_of_mem ?_ srt
          intro a b ha hb hab e
          have h1 := hld a ha
          have h2 := hld b hb
          omega
        · intro x hx
          obtain ⟨k, hk, rfl⟩ := List.mem_map.mp hx
          have := hld k hk
          omega
      refine ⟨_, rfl, h, held, rfl, SqT.of (s3 _ _ hh), by omega, fun p c hp hc => ?_⟩
      have s4 := same_new (o := SetO w p (fun j => decide (j ∈ held)) c) hp
      refine ⟨p, _, c, rfl, upd_same, by omega, fun ns y hs hm hlen hy => ?_⟩
      have ens : ns = held := sorted_ext hs srt (fun k => by rw [hm]; simp)
      subst ens
      have s5 := same_new (o := HO.lst (ns.map V.int)) hy
      refine ⟨_, _, dp_ints ((s4.trans s5) _ _ upd_same), dp_ints upd_same, shaped_ints _, shaped_ints _, ?_⟩
      rw [eqv_ints]
      exact q _ (s3.trans (s4.trans s5))
end
end Flk

set_option Elab.async false
set_option linter.all false
set_option maxRecDepth 100000
set_option maxHeartbeats 8000000
/-! The walk, 11: need_line, held_in, frame_of, is_wish, need_wish, need_paint, goals_of. -/
namespace Flk
open PySem PySem.Spec PyProof.Rows L2
theorem val_mid {te : TE} {σ : L2.St} {H : Hp} {Q : VK} {Mid : V → Hp → Prop} (h : ∀ R : VK, (∀ v H', Mid v H' → R v H') → te σ H R) (k : ∀ v H', Mid v H' → Q v H') : te σ H Q := h Q k
section
variable {P : Program} {w : World} {K : PySem.W.Frag} {mg : Str → Option Value} {base : Heap} {CC CT : Addr}
/-! ### need_line -/
def spNeedLine : Sp := fun vs H Q _ => ∃ (t c h : Addr) (cells held : List Int) (ring : Bool), vs = [.ref t] ∧ LineIn H t c h cells held ring ∧ LineOk cells held ring ∧ ∀ H', Same H H' → Q .non H'
abbrev nNeedLine : List Str := ["line", "cells", "held", "is_ring", "least", "index", "one"]
theorem scNeedLine : FnScope nNeedLine ["line"] (defScope sNeedLine) := ⟨rfl, rfl, rfl, by decide +kernel, rfl, by decide +kernel, by decide +kernel⟩
theorem ok_need_line {f : Addr} {fd : FuncData} (F : Fun K "need_line" "need_line" sNeedLine f fd) (T : Txt K mg CC CT) (D : GFn P w K mg base 1 "is_in" ["value", "least", "most"] spIsIn) (DC : GFn P w K mg base 2 "is_cells" ["many", "value"] spIsCells) : FnOk P w K mg base CX0 3 f fd ["line"] spNeedLine := by
  obtain ⟨g, gd, GI, mI, kI, bI⟩ := D
  obtain ⟨gc, gcd, GC, mC, kC, bC⟩ := DC
  obtain ⟨t40, m40⟩ := T.cCells
  obtain ⟨t9, m9⟩ := T.cColour
  obtain ⟨t3, m3⟩ := T.cRing
  refine F.ok scNeedLine (fun vs H Q E h => ?_) (fun cdv A outer s H vs Q E hr h => ?_)
  · obtain ⟨t, c, h, cells, held, ring, rfl, _⟩ := h
    rfl
  · obtain ⟨t, c, h, cells, held, ring, rfl, L, W, q⟩ := h
    have hr1 : Room 1 _ := hr.mono (by decide)
    have nd := scNeedLine.nd
    refine ⟨_, pss_cons (ps_if (PW.pt (pw_or (pt_not (pt_val (pe_callB call_isi (by rfl) T.zInst (by decide +kernel) (pa_cons (pv 0) (pa_cons (pe_bltn (v := .ty "tuple") (by rfl) T.zTuple (by decide +kernel) rfl) pa_nil)))))
        (pw_or (pt_cmpR op_ne (pe_callB call_len_seq (by rfl) T.zLen PySem.boot_len (pa_cons (pv 0) pa_nil)) pe_int (nomark _))
        (pw_or1 (pt_not (pt_val (pe_callB call_isi (by rfl) T.zInst (by decide +kernel) (pa_cons (pe_ix ix_tup (pv 0) pe_int (fun _ _ => rfl)) (pa_cons (pe_bltn (v := .ty "bool") (by rfl) T.zBool (by decide +kernel) rfl) pa_nil))))))))) (pss_one ps_never) pss_nil)
      (pss_cons (ps_asg (pv 0) (pg_tup (by rfl) (pgs_cons (pg_name (i := 1) nd rfl (Or.inl rfl)) (pgs_cons (pg_name (i := 2) nd rfl (Or.inl rfl)) (pgs_cons (pg_name (i := 3) nd rfl (Or.inl rfl)) pgs_nil)))))
      (pss_cons (ps_set (i := 4) nd rfl (Or.inl rfl) (pe_ifExp (pt_val (pv 3)) (pe_glob (v := .int 3) rfl m3 ⟨_, rfl⟩) pe_int))
      (pss_cons (ps_if (PW.pt (pw_or (pt_not (pt_val (pe_callB call_isi (by rfl) T.zInst (by decide +kernel) (pa_cons (pv 1) (pa_cons (pe_bltn (v := .ty "tuple") (by rfl) T.zTuple (by decide +kernel) rfl) pa_nil)))))
        (pw_or1 (pt_not (pt_chain op_le op_le (pv 4) (pe_callB call_len_seq (by rfl) T.zLen PySem.boot_len (pa_cons (pv 1) pa_nil)) (pe_glob (v := .int 40) rfl m40 ⟨_, rfl⟩)))))) (pss_one ps_never) pss_nil)
      (pss_cons (ps_for PassesOwn.never rfl (pi_enumT (by rfl) T.zEnum (pa_cons (pv 1) pa_nil)) (pg_tup rfl (pgs_cons (pg_name (i := 5) nd rfl (Or.inl rfl)) (pgs_cons (pg_name (i := 6) nd rfl (Or.inl rfl)) pgs_nil)))
        (pss_one (ps_if (pt_not (pt_val (pe_call GI hr1 (by rfl) mI kI bI .nil pass0 (pa_cons (pv 6) (pa_cons pe_int (pa_cons (pe_glob (v := .int 9) rfl m9 ⟨_, rfl⟩) pa_nil)))))) (pss_one ps_never) pss_nil)))
      (pss_one (ps_if (pt_not (pt_val (pe_call GC hr (by rfl) mC kC bC .nil pass0 (pa_cons (pe_callB call_len_seq (by rfl) T.zLen PySem.boot_len (pa_cons (pv 1) pa_nil)) (pa_cons (pv 2) pa_nil))))) (pss_one ps_never) pss_nil)))))), ?_⟩
    have l1 := W.len1
    have l6 := W.len6
    refine ⟨_, rfl, _, _, _, _, true, rfl, .ty _, .base (.tup L.at_), kit_ty (by decide +kernel), _, rfl, iteF ?_⟩
    refine ⟨_, rfl, t, _, rfl, .inr (SqT.of L.at_), rfl, _, rfl, iteF ?_⟩
    refine ⟨_, rfl, t, _, _, _, rfl, rfl, SqT.of L.at_, rfl, _, _, _, _, true, rfl, .ty _, .base (.bl ring), kit_ty (by decide +kernel), _, rfl, iteF ?_⟩
    refine ⟨_, rfl, t, _, rfl, SqT.of L.at_, rfl, _, _, rfl, _, _, rfl, _, _, rfl, rfl, ?_⟩
    dsimp only [tSeq, tAsg]
    refine val_mid (Mid := fun v H' => v = V.int (if ring = true then 3 else 1) ∧ H' = H) (fun R k => ⟨_, rfl, ring, rfl, ?_⟩) ?_
    · cases ring
      · exact k _ _ ⟨rfl, rfl⟩
      · exact k _ _ ⟨rfl, rfl⟩
    rintro v H' ⟨rfl, rfl⟩
    have hlen : (if ring = true then (3 : Int) else 1) ≤ ((cells.map V.int).length : Int) := by
      rw [List.length_map]
      cases ring
      · show (1 : Int) ≤ _
        omega
      · have := W.ring rfl
        show (3 : Int) ≤ _
        omega
    refine ⟨_, rfl, _, _, _, _, true, rfl, .ty _, .base (.tup L.cs), kit_ty (by decide +kernel), _, rfl, iteF ?_⟩
    refine ⟨_, rfl, _, rfl, c, _, rfl, .inr (SqT.of L.cs), _, _, rfl, rfl, _, rfl, iteY (decide_eq_true hlen) ?_⟩
    refine ⟨_, _, rfl, rfl, true, ?_, iteF ?_⟩
    · have : decide (((cells.map V.int).length : Int) ≤ 40) = true := decide_eq_true (by rw [List.length_map]; omega)
      dsimp only
      rw [this]
    refine ⟨_, rfl, c, _, rfl, SqT.of L.cs, for_enumT (K := K) (a := c) (xs := cells.map V.int) (fun i σ H1 => ∃ (y5 y6 : Option V), σ = [some (.ref t), some (.ref c), some (.ref h), some (.bl ring), some (V.int (if ring = true then 3 else 1)), y5, y6] ∧ Same H' H1)
      ⟨_, _, rfl, Same.refl _⟩ (fun i σ H1 ⟨_, _, _, s1⟩ => SqT.of (s1 _ _ L.cs)) ?_ ?_⟩
    · rintro i x tt σ H1 hi ⟨y5, y6, rfl, s1⟩ htt
      obtain ⟨k, hk, rfl⟩ := ints_get hi
      have hk3 := W.cell k (List.mem_of_getElem? hk)
      refine ⟨tt, _, rfl, SqT.of upd_same, rfl, _, _, rfl, _, _, rfl, rfl, ?_⟩
      refine ⟨_, rfl, k, 0, 9, rfl, true, ?_, iteF ?_⟩
      · have : decide ((0 : Int) ≤ k ∧ k ≤ 9) = true := decide_eq_true ⟨hk3.1, by omega⟩
        rw [this]
      · exact ⟨_, _, rfl, s1.trans (same_new htt)⟩
    · rintro σ H1 ⟨y5, y6, rfl, s1⟩
      refine ⟨_, rfl, c, _, rfl, .inr (SqT.of (s1 _ _ L.cs)), _, rfl, cells.length, h, held, ?_, s1 _ _ L.hs, W.srt, W.hld, by omega, fun H2 s2 => ⟨_, rfl, iteF (q _ (s1.trans s2))⟩⟩
      rw [List.length_map]
      rfl
/-! ### held_in -/
def spHeldIn : Sp := fun vs H Q _ => ∃ (t c h : Addr) (cs : List V) (held : List Int) (ring : Bool), vs = [.ref t] ∧ H t = some (.tup [.ref c, .ref h, .bl ring]) ∧ H c = some (.tup cs) ∧ 1 ≤ cs.length ∧ cs.length ≤ 100 ∧ H h = some (.tup (held.map V.int)) ∧ held.length ≤ 50 ∧
  ∀ (H' : Hp) (l : Addr) (hs : List Int), Same H H' → H' l = some (.lst (hs.map V.int)) → (∀ k : Int, k ∈ hs ↔ k ∈ held ∨ (ring = false ∧ (k = 0 ∨ k = (cs.length : Int) - 1))) → Q (.ref l) H'
abbrev nHeldIn : List Str := ["line", "cells", "held", "is_ring", "ends"]
theorem scHeldIn : FnScope nHeldIn ["line"] (defScope sHeldIn) := ⟨rfl, rfl, rfl, by decide +kernel, rfl, by decide +kernel, by decide +kernel⟩
theorem ok_held_in {f : Addr} {fd : FuncData} (F : Fun K "held_in" "held_in" sHeldIn f fd) (T : Txt K mg CC CT) : FnOk P w K mg base CX0 1 f fd ["line"] spHeldIn := by
  refine F.ok scHeldIn (fun vs H Q E h => ?_) (fun cdv A outer s H vs Q E hr h => ?_)
  · obtain ⟨t, c, h, cs, held, ring, rfl, _⟩ := h
    rfl
  · obtain ⟨t, c, h, cs, held, ring, rfl, ht, hc, l1, l100, hh, lh, q⟩ := h
    have nd := scHeldIn.nd
    refine ⟨_, pss_cons (ps_asg (pv 0) (pg_tup (by rfl) (pgs_cons (pg_name (i := 1) nd rfl (Or.inl rfl)) (pgs_cons (pg_name (i := 2) nd rfl (Or.inl rfl)) (pgs_cons (pg_name (i := 3) nd rfl (Or.inl rfl)) pgs_nil)))))
      (pss_cons (ps_set (i := 4) nd rfl (Or.inl rfl) (pe_ifExp (pt_val (pv 3)) (pe_lst pa_nil) (pe_lst (pa_cons pe_int (pa_cons (pe_op op_sub (pe_callB call_len_seq (by rfl) T.zLen PySem.boot_len (pa_cons (pv 1) pa_nil)) pe_int) pa_nil)))))
      (pss_one (ps_ret (pe_callB (cr_sortedSet rfl) (by rfl) T.zSorted (by decide +kernel) (pa_cons (pe_callTy (cr_setOfI rfl) (by rfl) T.zSet (by decide +kernel)
        (pa_cons (pe_op op_cat (pe_callTy call_list_of (by rfl) T.zList (by decide +kernel) (pa_cons (pv 2) pa_nil)) (pv 4)) pa_nil)) pa_nil))))), ?_⟩
    refine ⟨_, rfl, t, _, rfl, SqT.of ht, rfl, _, _, rfl, _, _, rfl, _, _, rfl, rfl, ?_⟩
    dsimp only [tSeq, tAsg]
    refine val_mid (Mid := fun v H' => ∃ (e : Addr) (es : List Int), v = .ref e ∧ Same H H' ∧ H' e = some (.lst (es.map V.int)) ∧ es.length ≤ 2 ∧ ∀ k : Int, k ∈ es ↔ (ring = false ∧ (k = 0 ∨ k = (cs.length : Int) - 1))) (fun R k => ⟨_, rfl, ring, rfl, ?_⟩) ?_
    · cases ring
      · refine iteF ⟨_, rfl, c, _, rfl, .inr (SqT.of hc), _, _, rfl, rfl, (by show 2 ≤ sizeLine; decide), fun e he => k _ _ ⟨e, [0, (cs.length : Int) - 1], rfl, same_new he, upd_same, Nat.le_refl _, fun k => ?_⟩⟩
        simp
      · refine iteT ⟨Nat.zero_le _, fun e he => k _ _ ⟨e, [], rfl, same_new he, upd_same, Nat.zero_le _, fun k => ?_⟩⟩
        simp
    rintro v H1 ⟨e, es, rfl, s1, he, hel, hem⟩
    refine ⟨_, rfl, h, _, rfl, .inr (SqT.of (s1 _ _ hh)), fun l hl => ?_⟩
    have s2 := same_new (o := HO.lst (held.map V.int)) hl
    refine ⟨_, rfl, l, e, _, _, rfl, rfl, upd_same, s2 _ _ he, (by rw [List.length_map, List.length_map]; exact line1000 (by omega)), fun m hm => ?_⟩
    have s3 := same_new (o := HO.lst (held.map V.int ++ es.map V.int)) hm
    refine ⟨m, held ++ es, rfl, SqL.of (by rw [upd_same, List.map_append]), (by rw [List.length_append]; omega), fun p c' hp hc' => ?_⟩
    have s4 := same_new (o := SetO w p (fun j => decide (j ∈ held ++ es)) c') hp
    rw [List.length_append] at hc'
    refine ⟨p, _, c', rfl, upd_same, by omega, fun ns y hs hmm hlen hy => ?_⟩
    have s5 := same_new (o := HO.lst (ns.map V.int)) hy
    refine q _ y ns ((((s1.trans s2).trans s3).trans s4).trans s5) upd_same fun k => ?_
    rw [hmm, decide_eq_true_eq, List.mem_append, hem]
/-! ### frame_of -/
def spFrame : Sp := fun vs H Q _ => ∃ (t c h : Addr) (cells held : List Int) (ring : Bool), vs = [.ref t] ∧ LineIn H t c h cells held ring ∧ ∀ H' p, Same H H' → H' p = some (.tup [.int cells.length, .ref h, .bl ring]) → Q (.ref p) H'
theorem scFrame : FnScope ["line"] ["line"] (defScope sFrame) := ⟨rfl, rfl, rfl, by decide +kernel, rfl, by decide +kernel, by decide +kernel⟩
theorem ok_frame_of {f : Addr} {fd : FuncData} (F : Fun K "frame_of" "frame_of" sFrame f fd) (T : Txt K mg CC CT) : FnOk P w K mg base CX0 1 f fd ["line"] spFrame := by
  refine F.ok scFrame (fun vs H Q E h => ?_) (fun cdv A outer s H vs Q E hr h => ?_)
  · obtain ⟨t, c, h, cells, held, ring, rfl, _⟩ := h
    rfl
  · obtain ⟨t, c, h, cells, held, ring, rfl, L, q⟩ := h
    refine ⟨_, pss_one (ps_ret (pe_tup (pa_cons (pe_callB call_len_seq (by rfl) T.zLen PySem.boot_len (pa_cons (pe_ix ix_tup (pv 0) pe_int (fun _ _ => rfl)) pa_nil)) (pa_cons (pe_ix ix_tup (pv 0) pe_int (fun _ _ => rfl)) (pa_cons (pe_ix ix_tup (pv 0) pe_int (fun _ _ => rfl)) pa_nil))))), ?_⟩
    refine ⟨_, rfl, t, _, _, _, rfl, rfl, SqT.of L.at_, rfl, c, _, rfl, .inr (SqT.of L.cs), _, rfl, t, _, _, _, rfl, rfl, SqT.of L.at_, rfl, _, rfl, t, _, _, _, rfl, rfl, SqT.of L.at_, rfl, (by show 3 ≤ sizeLine; decide), fun p hp => ?_⟩
    refine q _ p (same_new hp) ?_
    rw [upd_same, List.length_map]
/-! ### is_wish -/
def WishOk (n : Nat) (wish : List (Option Int)) : Prop := wish.length = n ∧ ∀ c, some c ∈ wish → 0 ≤ c ∧ c < 3
theorem opts_get {ws : List (Option Int)} {i : Nat} {v : V} (hi : (ws.map oV)[i]? = some v) : ∃ n, ws[i]? = some n ∧ v = oV n := by
  rw [List.getElem?_map] at hi
  cases e : ws[i]? with
  | none => rw [e] at hi; cases hi
  | some n => rw [e] at hi; exact ⟨n, rfl, (Option.some.inj hi).symm⟩
def spIsWish : Sp := fun vs H Q _ => ∃ (n : Nat) (a : Addr) (wish : List (Option Int)), vs = [.int n, .ref a] ∧ H a = some (.tup (wish.map oV)) ∧ WishOk n wish ∧ ∀ H', Same H H' → Q (.bl true) H'
abbrev nIsWish : List Str := ["many", "value", "one"]
theorem scIsWish : FnScope nIsWish ["many", "value"] (defScope sIsWish) := ⟨rfl, rfl, rfl, by decide +kernel, rfl, by decide +kernel, by decide +kernel⟩
theorem ok_is_wish {f : Addr} {fd : FuncData} (F : Fun K "is_wish" "is_wish" sIsWish f fd) (T : Txt K mg CC CT) (D : GFn P w K mg base 1 "is_in" ["value", "least", "most"] spIsIn) : FnOk P w K mg base CX0 2 f fd ["many", "value"] spIsWish := by
  obtain ⟨g, gd, GI, mI, kI, bI⟩ := D
  obtain ⟨t9, m9⟩ := T.cColour
  refine F.ok scIsWish (fun vs H Q E h => ?_) (fun cdv A outer s H vs Q E hr h => ?_)
  · obtain ⟨n, a, wish, rfl, _⟩ := h
    rfl
  · obtain ⟨n, a, wish, rfl, ha, ⟨hl, hw⟩, q⟩ := h
    have hu := hr.units
    have nd := scIsWish.nd
    refine ⟨_, pss_cons (ps_if (PW.pt (pw_or (pt_not (pt_val (pe_callB call_isi (by rfl) T.zInst (by decide +kernel) (pa_cons (pv 1) (pa_cons (pe_bltn (v := .ty "tuple") (by rfl) T.zTuple (by decide +kernel) rfl) pa_nil)))))
        (pw_or1 (pt_cmpR op_ne (pe_callB call_len_seq (by rfl) T.zLen PySem.boot_len (pa_cons (pv 1) pa_nil)) (pv 0) (nomark _))))) (pss_one (ps_ret pe_bl)) pss_nil)
      (pss_one (ps_ret (pe_cmpR (op_eqD hu) (pe_lc (own := [("one", 2)]) (g := gName 2)
          (tt := tAnd (tTest (tOp (fun x y H Q => y = .non ∧ Q (.bl (!decide (x = .non))) H) (tVar 2) (tC .non))) (tNot (tB (tCall spIsIn [] E0 (tCons (tVar 2) (tCons (tC (.int 0)) (tCons (tC (.int 9)) tNil)))))))
          rfl nd (pi_tup (pv 1))
          (blkOk_by (own := [("one", 2)]) (N := nIsWish) (sc := defScope sIsWish) (by decide +kernel)) (fun _ _ _ _ _ => pg_name (i := 2) nd rfl (Or.inl rfl))
          (fun _ _ _ _ _ => pts_one (PW.pt (pw_and (pt_cmpR op_notN (pv 2) pe_non (nomark _)) (pw_and1 (pt_not (pt_val (pe_call GI hr (by rfl) mI kI bI .nil pass0 (pa_cons (pv 2) (pa_cons pe_int (pa_cons (pe_glob (v := .int 9) rfl m9 ⟨_, rfl⟩) pa_nil))))))))))
          (fun _ _ _ _ _ => pv 2)) (pe_lst pa_nil) (nomark _)))), ?_⟩
    refine ⟨_, rfl, _, _, _, _, true, rfl, .ty _, .base (.tup ha), kit_ty (by decide +kernel), _, rfl, iteF ?_⟩
    refine ⟨_, rfl, a, _, rfl, .inr (SqT.of ha), _, rfl, rfl, _, rfl, iteE ?_ ?_⟩
    · rw [List.length_map, hl]
      simp
    refine ⟨_, rfl, a, rfl, ⟨_, SqT.of ha⟩, fun D hD => lc_tup (K := K) (a := a) (xs := wish.map oV) (fun i H1 => Same H H1 ∧ H1 D = some (.lst [])) ⟨same_new hD, upd_same⟩ (fun i H1 _ p => SqT.of (p.1 _ _ ha)) ?_ ?_⟩
    · rintro i x H1 hi ⟨s1, hD1⟩
      obtain ⟨o, ho, rfl⟩ := opts_get hi
      refine ⟨rfl, _, rfl, rfl, _, rfl, ?_⟩
      cases o with
      | none => exact iteF ⟨s1, hD1⟩
      | some c =>
        have := hw c (List.mem_of_getElem? ho)
        have e : decide ((0 : Int) ≤ c ∧ c ≤ 9) = true := decide_eq_true ⟨this.1, by omega⟩
        exact iteT ⟨_, rfl, c, 0, 9, rfl, true, by rw [e], s1, hD1⟩
    · rintro H1 ⟨s1, hD1⟩
      exact ⟨Nat.zero_le _, fun z hz => ⟨_, _, dp_nil (same_new hz _ _ hD1), dp_nil upd_same, rfl, rfl, q _ (s1.trans (same_new hz))⟩⟩
/-! ### need_wish -/
def spNeedWish : Sp := fun vs H Q _ => ∃ (t c h a : Addr) (cells held : List Int) (ring : Bool) (wish : List (Option Int)), vs = [.ref t, .ref a] ∧ LineIn H t c h cells held ring ∧ LineOk cells held ring ∧ H a = some (.tup (wish.map oV)) ∧ WishOk cells.length wish ∧ ∀ H', Same H H' → Q .non H'
theorem scNeedWish : FnScope ["line", "wish"] ["line", "wish"] (defScope sNeedWish) := ⟨rfl, rfl, rfl, by decide +kernel, rfl, by decide +kernel, by decide +kernel⟩
theorem ok_need_wish {f : Addr} {fd : FuncData} (F : Fun K "need_wish" "need_wish" sNeedWish f fd) (T : Txt K mg CC CT) (DL : GFn P w K mg base 3 "need_line" ["line"] spNeedLine) (DW : GFn P w K mg base 2 "is_wish" ["many", "value"] spIsWish) : FnOk P w K mg base CX0 4 f fd ["line", "wish"] spNeedWish := by
  obtain ⟨gl, gld, GL, mL, kL, bL⟩ := DL
  obtain ⟨gw, gwd, GW, mW, kW, bW⟩ := DW
  refine F.ok scNeedWish (fun vs H Q E h => ?_) (fun cdv A outer s H vs Q E hr h => ?_)
  · obtain ⟨t, c, h, a, cells, held, ring, wish, rfl, _⟩ := h
    rfl
  · obtain ⟨t, c, h, a, cells, held, ring, wish, rfl, L, W, ha, hw, q⟩ := h
    have hr2 : Room 2 _ := hr.mono (by decide)
    refine ⟨_, pss_cons (ps_expr (pe_call GL hr (by rfl) mL kL bL .nil pass0 (pa_cons (pv 0) pa_nil)))
      (pss_one (ps_if (pt_not (pt_val (pe_call GW hr2 (by rfl) mW kW bW .nil pass0 (pa_cons (pe_callB call_len_seq (by rfl) T.zLen PySem.boot_len (pa_cons (pe_ix ix_tup (pv 0) pe_int (fun _ _ => rfl)) pa_nil)) (pa_cons (pv 1) pa_nil))))) (pss_one ps_never) pss_nil)), ?_⟩
    refine ⟨_, rfl, t, c, h, cells, held, ring, rfl, L, W, fun H1 s1 => ?_⟩
    refine ⟨_, rfl, t, _, _, _, rfl, rfl, SqT.of (s1 _ _ L.at_), rfl, c, _, rfl, .inr (SqT.of (s1 _ _ L.cs)), _, rfl, cells.length, a, wish, ?_, s1 _ _ ha, hw, fun H2 s2 => ⟨_, rfl, iteF (q _ (s1.trans s2))⟩⟩
    rw [List.length_map]
    rfl
/-! ### need_paint -/
def PricesOk (n : Nat) (prices : List Int) : Prop := prices.length = n ∧ ∀ p ∈ prices, 0 ≤ p ∧ p ≤ 1000
def spNeedPaint : Sp := fun vs H Q _ => ∃ (t c h a r : Addr) (cells held : List Int) (ring : Bool) (wish : List (Option Int)) (prices : List Int) (colours : Nat), vs = [.ref t, .ref a, .ref r, .int colours] ∧ LineIn H t c h cells held ring ∧ LineOk cells held ring ∧ H a = some (.tup (wish.map oV)) ∧ WishOk cells.length wish ∧
  H r = some (.tup (prices.map V.int)) ∧ PricesOk cells.length prices ∧ 1 ≤ colours ∧ colours ≤ 3 ∧ ∀ H', Same H H' → Q .non H'
abbrev nNeedPaint : List Str := ["line", "wish", "prices", "colours", "one"]
theorem scNeedPaint : FnScope nNeedPaint ["line", "wish", "prices", "colours"] (defScope sNeedPaint) := ⟨rfl, rfl, rfl, by decide +kernel, rfl, by decide +kernel, by decide +kernel⟩
theorem ok_need_paint {f : Addr} {fd : FuncData} (F : Fun K "need_paint" "need_paint" sNeedPaint f fd) (T : Txt K mg CC CT) (D : GFn P w K mg base 1 "is_in" ["value", "least", "most"] spIsIn) (DW : GFn P w K mg base 4 "need_wish" ["line", "wish"] spNeedWish) (DC : GFn P w K mg base 2 "need_colours" ["colours"] spNeedCol) :
    FnOk P w K mg base CX0 5 f fd ["line", "wish", "prices", "colours"] spNeedPaint := by
  obtain ⟨g, gd, GI, mI, kI, bI⟩ := D
  obtain ⟨gw, gwd, GW, mW, kW, bW⟩ := DW
  obtain ⟨gc, gcd, GC, mC, kC, bC⟩ := DC
  obtain ⟨t1000, m1000⟩ := T.cPrice
  refine F.ok scNeedPaint (fun vs H Q E h => ?_) (fun cdv A outer s H vs Q E hr h => ?_)
  · obtain ⟨t, c, h, a, r, cells, held, ring, wish, prices, colours, rfl, _⟩ := h
    rfl
  · obtain ⟨t, c, h, a, r, cells, held, ring, wish, prices, colours, rfl, L, W, ha, hw, hp, ⟨pl, pb⟩, c1, c3, q⟩ := h
    have hu := hr.units
    have hr1 : Room 1 _ := hr.mono (by decide)
    have hr2 : Room 2 _ := hr.mono (by decide)
    have nd := scNeedPaint.nd
    refine ⟨_, pss_cons (ps_expr (pe_call GW hr (by rfl) mW kW bW .nil pass0 (pa_cons (pv 0) (pa_cons (pv 1) pa_nil))))
      (pss_cons (ps_if (PW.pt (pw_or (pt_not (pt_val (pe_callB call_isi (by rfl) T.zInst (by decide +kernel) (pa_cons (pv 2) (pa_cons (pe_bltn (v := .ty "tuple") (by rfl) T.zTuple (by decide +kernel) rfl) pa_nil)))))
        (pw_or1 (pt_cmpR op_ne (pe_callB call_len_seq (by rfl) T.zLen PySem.boot_len (pa_cons (pv 2) pa_nil)) (pe_callB call_len_seq (by rfl) T.zLen PySem.boot_len (pa_cons (pe_ix ix_tup (pv 0) pe_int (fun _ _ => rfl)) pa_nil)) (nomark _))))) (pss_one ps_never) pss_nil)
      (pss_cons (ps_if (pt_cmpR (op_neD hu) (pe_lc (own := [("one", 4)]) (g := gName 4) (tt := tNot (tB (tCall spIsIn [] E0 (tCons (tVar 4) (tCons (tC (.int 0)) (tCons (tC (.int 1000)) tNil)))))) rfl nd (pi_tup (pv 2))
          (blkOk_by (own := [("one", 4)]) (N := nNeedPaint) (sc := defScope sNeedPaint) (by decide +kernel)) (fun _ _ _ _ _ => pg_name (i := 4) nd rfl (Or.inl rfl))
          (fun _ _ _ _ _ => pts_one (pt_not (pt_val (pe_call GI hr1 (by rfl) mI kI bI .nil pass0 (pa_cons (pv 4) (pa_cons pe_int (pa_cons (pe_glob (v := .int 1000) rfl m1000 ⟨_, rfl⟩) pa_nil)))))))
          (fun _ _ _ _ _ => pv 4)) (pe_lst pa_nil) (nomark _)) (pss_one ps_never) pss_nil)
      (pss_one (ps_expr (pe_call GC hr2 (by rfl) mC kC bC .nil pass0 (pa_cons (pv 3) pa_nil)))))), ?_⟩
    refine ⟨_, rfl, _, rfl, t, c, h, a, cells, held, ring, wish, rfl, L, W, ha, hw, fun H1 s1 => ?_⟩
    have hp1 := s1 _ _ hp
    refine ⟨_, rfl, _, _, _, _, true, rfl, .ty _, .base (.tup hp1), kit_ty (by decide +kernel), _, rfl, iteF ?_⟩
    refine ⟨_, rfl, r, _, rfl, .inr (SqT.of hp1), _, rfl, t, _, _, _, rfl, rfl, SqT.of (s1 _ _ L.at_), rfl, c, _, rfl, .inr (SqT.of (s1 _ _ L.cs)), rfl, _, rfl, iteE ?_ ?_⟩
    · rw [List.length_map, List.length_map, pl]
      simp
    refine ⟨_, rfl, r, rfl, ⟨_, SqT.of hp1⟩, fun D hD => lc_tup (K := K) (a := r) (xs := prices.map V.int) (fun i H2 => Same H1 H2 ∧ H2 D = some (.lst [])) ⟨same_new hD, upd_same⟩ (fun i H2 _ p => SqT.of (p.1 _ _ hp1)) ?_ ?_⟩
    · rintro i x H2 hi ⟨s2, hD2⟩
      obtain ⟨k, hk, rfl⟩ := ints_get hi
      have := pb k (List.mem_of_getElem? hk)
      have e : decide ((0 : Int) ≤ k ∧ k ≤ 1000) = true := decide_eq_true this
      exact ⟨rfl, _, rfl, k, 0, 1000, rfl, true, by rw [e], s2, hD2⟩
    · rintro H2 ⟨s2, hD2⟩
      refine ⟨Nat.zero_le _, fun z hz => ⟨_, _, dp_nil (same_new hz _ _ hD2), dp_nil upd_same, rfl, rfl, _, rfl, iteE rfl ?_⟩⟩
      exact ⟨_, rfl, _, rfl, by omega, by omega, q _ ((s1.trans s2).trans (same_new hz))⟩
/-! ### goals_of -/
def spGoals : Sp := fun vs H Q _ => ∃ (a : Addr) (wish : List (Option Int)), vs = [.ref a] ∧ H a = some (.tup (wish.map oV)) ∧ wish.length ≤ 100 ∧
  ∀ H' l gs, Same H H' → H' l = some (.lst gs) → Paired (fun v o => match o with | none => v = V.non | some c => ∃ g, v = V.ref g ∧ H' g = some (.tup [.int c])) gs wish → Q (.ref l) H'
abbrev nGoals : List Str := ["wish", "one"]
theorem scGoals : FnScope nGoals ["wish"] (defScope sGoals) := ⟨rfl, rfl, rfl, by decide +kernel, rfl, by decide +kernel, by decide +kernel⟩
theorem ok_goals_of {f : Addr} {fd : FuncData} (F : Fun K "goals_of" "goals_of" sGoals f fd) (T : Txt K mg CC CT) : FnOk P w K mg base CX0 1 f fd ["wish"] spGoals := by
  refine F.ok scGoals (fun vs H Q E h => ?_) (fun cdv A outer s H vs Q E hr h => ?_)
  · obtain ⟨a, wish, rfl, _⟩ := h
    rfl
  · obtain ⟨a, wish, rfl, ha, hl, q⟩ := h
    have nd := scGoals.nd
    refine ⟨_, pss_one (ps_ret (pe_lc (own := [("one", 1)]) (g := gName 1) (tt := tYes) (te := tIf (tTest (tOp (fun x y H Q => y = .non ∧ Q (.bl (decide (x = .non))) H) (tVar 1) (tC .non))) (tC .non) (tTup (tCons (tVar 1) tNil))) rfl nd (pi_tup (pv 0))
          (blkOk_by (own := [("one", 1)]) (N := nGoals) (sc := defScope sGoals) (by decide +kernel)) (fun _ _ _ _ _ => pg_name (i := 1) nd rfl (Or.inl rfl)) (fun _ _ _ _ _ => pts_nil)
          (fun _ _ _ _ _ => pe_ifExp (pt_cmpR op_isN (pv 1) pe_non (nomark _)) pe_non (pe_tup (pa_cons (pv 1) pa_nil))))), ?_⟩
    refine ⟨_, rfl, a, rfl, ⟨_, SqT.of ha⟩, fun D hD => lc_tup (K := K) (a := a) (xs := wish.map oV) (fun i H1 => ∃ acc, Same H H1 ∧ H1 D = some (.lst acc) ∧ Paired (fun v o => match o with | none => v = V.non | some c => ∃ g, v = V.ref g ∧ H1 g = some (.tup [.int c])) acc (wish.take i))
      ⟨[], same_new hD, upd_same, .nil⟩ (fun i H1 _ ⟨_, s1, _⟩ => SqT.of (s1 _ _ ha)) ?_ ?_⟩
    · rintro i x H1 hi ⟨acc, s1, hD1, hp⟩
      obtain ⟨o, ho, rfl⟩ := opts_get hi
      have hil : i < wish.length := (List.getElem?_eq_some_iff.mp ho).1
      have hal : acc.length ≤ 100 := by
        rw [Paired.length hp, List.length_take]; omega
      have htk : wish.take (i + 1) = wish.take i ++ [o] := by rw [List.take_succ, ho]; rfl
      refine ⟨rfl, _, rfl, rfl, _, rfl, ?_⟩
      cases o with
      | none =>
        refine iteT ⟨acc, hD1, small1000 (by omega), acc ++ [V.non], same_upd s1 hD, upd_same, ?_⟩
        rw [htk]
        refine Paired.snoc (Paired.mapP hp fun v o z => ?_) rfl
        cases o with
        | none => exact z
        | some c =>
          obtain ⟨g, e, h1⟩ := z
          exact ⟨g, e, by rw [upd_ne (ne_of h1 hD1 (by intro z; cases z))]; exact h1⟩
      | some c =>
        refine iteF ⟨_, rfl, (by show 1 ≤ sizeLine; decide), fun p hpn => ?_⟩
        have s2 := same_new (o := HO.tup [V.int c]) hpn
        refine ⟨acc, s2 _ _ hD1, small1000 (by omega), acc ++ [V.ref p], same_upd (s1.trans s2) hD, upd_same, ?_⟩
        rw [htk]
        have hDp : p ≠ D := (ne_of_none hD1 hpn).symm
        refine Paired.snoc (Paired.mapP hp fun v o z => ?_) ⟨p, rfl, by rw [upd_ne hDp]; exact upd_same⟩
        cases o with
        | none => exact z
        | some c =>
          obtain ⟨g, e, h1⟩ := z
          exact ⟨g, e, by rw [upd_ne (ne_of h1 hD1 (by intro z; cases z))]; exact s2 _ _ h1⟩
    · rintro H1 ⟨acc, s1, hD1, hp⟩
      rw [List.length_map, List.take_length] at hp
      exact q H1 D acc s1 hD1 hp
end
end Flk

set_option Elab.async false
set_option linter.all false
set_option maxRecDepth 100000
set_option maxHeartbeats 4000000
/-! Rules of this proof's own, 7: C(), C a class without an __init__. -/
namespace Flk
open PySem PySem.Spec PyProof.Rows L2 PySem.W
structure MkO (K : PySem.W.Frag) (C : Addr) : Prop where
  makes : PySem.W.makesIn K C = true
  init : PySem.W.findIn K (.ref C) "__init__" = some (some (.builtin "object.__init__"))
  kp : PySem.W.keepIn K (.ref C) = true
def tMakeO (C : Addr) : TE := fun _ H Q => ∀ x dx, H x = none → H dx = none → dx ≠ x → Q (.ref x) (upd (upd H dx (.own x)) x (.ins C dx []))
section
variable {X : Cx} {pos : Pos}
theorem run_makeO {pins : List (Addr × Obj)} {σ : L2.St} {H : Hp} {s : Shared} {Q : VK} {C : Addr} (M : MkO X.K C) (I : Inv X pins σ H s) (h : tMakeO C σ H Q) : wpAny (model X.prog X.w) X.A (call (.ref C) []) (EP X pins σ Q) X.xe s := by
  have hq := h (s.heap.objs.size + 1) s.heap.objs.size (I.hok.fresh (Nat.le_succ _)) (I.hok.fresh (Nat.le_refl _)) (Nat.ne_of_lt (Nat.lt_succ_self _))
  have I2 := L2.Inv.made (C := C) I
  refine wpAny_call (make_map0 I.kIn M.makes M.init (fun self => Looks.of_pure (oi_bind self)) ?_)
  have Y := makes_of (M := model X.prog X.w) I.kIn M.makes
  have gt : ((s.heap.push emptyDict).push (instObj C s.heap.objs.size)).get? (s.heap.objs.size + 1) = some (instObj C s.heap.objs.size) := by
    have := Heap.get?_push_size (s.heap.push emptyDict) (o := instObj C s.heap.objs.size) rfl
    rwa [Heap.size_push] at this
  have t1 : Looks (model X.prog X.w) ((s.heap.push emptyDict).push (instObj C s.heap.objs.size)) (typeOf (.ref (s.heap.objs.size + 1))) (.ref C) := (Looks.ld gt).andThen .now
  have t2 : Looks (model X.prog X.w) ((s.heap.push emptyDict).push (instObj C s.heap.objs.size)) (isInstance (.ref (s.heap.objs.size + 1)) (.type "object")) true := t1.andThen (Y.top.keeps fun b o e => Heap.get?_push_of_some _ (Heap.get?_push_of_some _ e))
  refine codeAny_call_builtin oi_plain entry_oi (@check_slot (model X.prog X.w) _ _ _ "object.__init__" "object" "__init__" (.ref (s.heap.objs.size + 1)) [] [] _ oi_kind oi_split t2 (oi_args (.ref (s.heap.objs.size + 1))) ?_)
  rw [oi_run]
  exact wpAny_pure (And.intro rfl ⟨V.ref (s.heap.objs.size + 1), _, I2, rfl, hq⟩)
theorem pe_makeO {x : Str} {p : Pos} {C : Addr} (M : MkO X.K C) (hg : Gl X x) (hm : X.mg x = some (.ref C)) (hdb : (x == ("__debug__" : Str)) = false := by decide) : PE X (.Call (.Name x p) [] [] pos) (tMakeO C) := by
  refine ⟨fun pins s σ H Q I h => ?_⟩
  refine wpAny_Call_Name_kw (ld_glob I hg hm ?_ hdb)
  exact PySem.W.callWith_K0 I.kIn M.kp (run_makeO M I h)
end
end Flk

set_option Elab.async false
set_option linter.all false
set_option maxRecDepth 100000
set_option maxHeartbeats 8000000
/-! The walk, 12: costs_of and the Table of a line. -/
namespace Flk
open PySem PySem.Spec PyProof.Rows L2
def rangeI (n : Nat) : List Int := (List.range n).map Int.ofNat
def domL (colours : Nat) (own : Int) : List Int := if own < colours then rangeI colours else rangeI colours ++ [own]
theorem mem_rangeI {n : Nat} {c : Int} : c ∈ rangeI n ↔ 0 ≤ c ∧ c < n := by
  unfold rangeI
  rw [List.mem_map]
  constructor
  · rintro ⟨k, hk, rfl⟩
    rw [List.mem_range] at hk
    exact ⟨Int.natCast_nonneg k, by show (k : Int) < n; omega⟩
  · rintro ⟨h1, h2⟩
    exact ⟨c.toNat, by rw [List.mem_range]; omega, by show ((c.toNat : Nat) : Int) = c; omega⟩
theorem mem_domL {colours : Nat} {own c : Int} (h : 0 ≤ own) : c ∈ domL colours own ↔ (0 ≤ c ∧ c < colours) ∨ c = own := by
  unfold domL
  split
  · rw [mem_rangeI]
    constructor
    · exact .inl
    · rintro (h | h)
      · exact h
      · subst h; exact ⟨h, ‹_›⟩
  · rw [List.mem_append, mem_rangeI, List.mem_singleton]
theorem srt_rangeI (n : Nat) : (rangeI n).Pairwise (· < ·) := by
  unfold rangeI
  rw [List.pairwise_map]
  exact List.pairwise_lt_range.imp fun h => by
    show ((_ : Nat) : Int) < ((_ : Nat) : Int)
    omega
theorem srt_domL (colours : Nat) (own : Int) : (domL colours own).Pairwise (· < ·) := by
  unfold domL
  split
  · exact srt_rangeI _
  · rw [List.pairwise_append]
    refine ⟨srt_rangeI _, by simp, fun a ha b hb => ?_⟩
    rw [List.mem_singleton] at hb
    subst hb
    have := (mem_rangeI.mp ha).2
    omega
theorem len_domL {colours : Nat} {own : Int} (h : colours ≤ 3) (h0 : own < 3) : (domL colours own).length ≤ 3 := by
  unfold domL
  split
  · unfold rangeI; rw [List.length_map, List.length_range]; exact h
  · unfold rangeI; rw [List.length_append, List.length_map, List.length_range, List.length_singleton]; omega
/-- the Table of a line -/
def mkT (cells held : List Int) (ring : Bool) (wish : List (Option Int)) (prices : List Int) (colours : Nat) : Tb where
  n := cells.length
  held k := decide ((k : Int) ∈ held ∨ (ring = false ∧ ((k : Int) = 0 ∨ (k : Int) = (cells.length : Int) - 1)))
  dom k := domL colours (cOf cells k)
  price k c := if c = cOf cells k then 0 else prices.getD k 0
  suits k c := match wish.getD k none with
    | none => true
    | some w => c == w
  longest := cells.length + 1
theorem cOf_rng {cells : List Int} (h : ∀ c ∈ cells, 0 ≤ c ∧ c < 3) (k : Nat) : 0 ≤ cOf cells k ∧ cOf cells k < 3 := by
  unfold cOf
  rw [List.getD_eq_getElem?_getD]
  cases e : cells[k]? with
  | none => exact ⟨Int.le_refl _, by decide⟩
  | some c => exact h c (List.mem_of_getElem? e)
theorem mkT_w {cells held : List Int} {ring : Bool} {wish : List (Option Int)} {prices : List Int} {colours : Nat} (L : LineOk cells held ring) (h1 : 1 ≤ colours) (h3 : colours ≤ 3) : TabW (mkT cells held ring wish prices colours) where
  n0 := L.len1
  n6 := L.len6
  lg := rfl
  srt := fun k => srt_domL _ _
  dln := fun k => len_domL h3 (cOf_rng L.cell k).2
  rng := fun k c hc => by
    have h := cOf_rng L.cell k
    rcases (mem_domL h.1).mp hc with ⟨a, b⟩ | e
    · exact ⟨a, by omega⟩
    · subst e; exact h
/-! ### the costs of one cell, as a dict -/
def baseK (colours : Nat) (price : Int) : List (Key × V) := (List.range colours).map fun i => (Sum.inl ((i : Nat) : Int), V.int price)
theorem valV_keys {kvs : List (Key × V)} {k : Key} (h : k ∉ kvs.map (·.1)) : valV kvs k = none := by
  unfold valV
  rw [Option.map_eq_none_iff, List.find?_eq_none]
  intro x hx
  simp only [decide_eq_true_eq]
  intro e
  exact h (List.mem_map.mpr ⟨x, hx, e⟩)
theorem mergeK_nodup : ∀ (more acc : List (Key × V)), (more.map (·.1)).Nodup → (∀ p ∈ more, p.1 ∉ acc.map (·.1)) → mergeK acc more = acc ++ more
  | [], acc, _, _ => by rw [List.append_nil]; rfl
  | p :: more, acc, nd, h => by
    rw [List.map_cons, List.nodup_cons] at nd
    show mergeK (putK acc p.1 p.2) more = _
    rw [putK_new _ (valV_keys (h p List.mem_cons_self)), mergeK_nodup more _ nd.2 fun q hq => ?_]
    · rw [List.append_assoc]; rfl
    · rw [List.map_append, List.mem_append]
      rintro (z | z)
      · exact h q (List.mem_cons_of_mem _ hq) z
      · rw [List.map_singleton, List.mem_singleton] at z
        exact nd.1 (by rw [← z]; exact List.mem_map.mpr ⟨q, hq, rfl⟩)
theorem baseK_keys (colours : Nat) (price : Int) : (baseK colours price).map (·.1) = (rangeI colours).map Sum.inl := by
  unfold baseK rangeI
  rw [List.map_map, List.map_map]
  rfl
theorem inl_nodup {ns : List Int} (h : ns.Pairwise (· < ·)) : (ns.map (Sum.inl : Int → Key)).Nodup := by
  rw [List.nodup_iff_pairwise_ne, List.pairwise_map]
  exact h.imp fun h e => by cases e; omega
theorem baseK_merge (colours : Nat) (price : Int) : mergeK [] (baseK colours price) = baseK colours price := by
  rw [mergeK_nodup _ _ (by rw [baseK_keys]; exact inl_nodup (srt_rangeI _)) (fun _ _ => by simp), List.nil_append]
theorem baseK_val {colours : Nat} {price c : Int} (h : 0 ≤ c ∧ c < colours) : valV (baseK colours price) (Sum.inl c : Key) = some (.int price) := by
  unfold valV baseK
  rw [List.find?_map, Option.map_map]
  have : ∃ i, List.find? ((fun kv : Key × V => decide (kv.1 = Sum.inl c)) ∘ fun i : Nat => ((Sum.inl ((i : Nat) : Int) : Key), V.int price)) (List.range colours) = some i := by
    rw [← Option.isSome_iff_exists, List.find?_isSome]
    refine ⟨c.toNat, by rw [List.mem_range]; omega, ?_⟩
    simp
    omega
  obtain ⟨i, hi⟩ := this
  rw [hi]
  rfl
def costK (colours : Nat) (price own : Int) : List (Key × V) := putK (baseK colours price) (Sum.inl own : Key) (.int 0)
theorem costK_keys {colours : Nat} {price own : Int} (h : 0 ≤ own) : (costK colours price own).map (·.1) = (domL colours own).map Sum.inl := by
  unfold costK domL
  split
  · have hv : valV (baseK colours price) (Sum.inl own : Key) = some (.int price) := baseK_val ⟨h, ‹_›⟩
    unfold putK
    rw [valV_any, hv]
    rw [if_pos (show (some (V.int price)).isSome = true from rfl), List.map_map, ← baseK_keys colours price]
    refine List.map_congr_left fun x _ => ?_
    show (if x.1 = Sum.inl own then (x.1, V.int 0) else x).1 = x.1
    split <;> rfl
  · have hv : valV (baseK colours price) (Sum.inl own : Key) = none := valV_keys (by
      rw [baseK_keys]
      intro z
      obtain ⟨n, hn, e⟩ := List.mem_map.mp z
      cases e
      exact absurd (mem_rangeI.mp hn).2 ‹_›)
    rw [putK_new _ hv, List.map_append, List.map_append, baseK_keys]
    rfl
theorem costK_val {colours : Nat} {price own c : Int} (h : 0 ≤ own) (hc : c ∈ domL colours own) : valV (costK colours price own) (Sum.inl c : Key) = some (.int (if c = own then 0 else price)) := by
  unfold costK
  rw [valV_put]
  by_cases e : c = own
  · subst e
    rw [if_pos rfl, if_pos rfl]
  · rw [if_neg (fun z => e (Sum.inl.inj z)), if_neg e]
    rcases (mem_domL h).mp hc with z | z
    · exact baseK_val z
    · exact absurd z e
end Flk

set_option Elab.async false
set_option linter.all false
set_option maxRecDepth 100000
set_option maxHeartbeats 8000000
/-! The walk, 13: costs_of, Table.__init__. -/
namespace Flk
open PySem PySem.Spec PyProof.Rows L2
theorem CostAt.keepD {H H' : Hp} {v : V} {T : Tb} {k : Nat} (c : CostAt H v T k) (s : ∀ b kvs, H b = some (.dK kvs) → H' b = some (.dK kvs)) : CostAt H' v T k := by
  obtain ⟨d, kvs, ns, e, h, r⟩ := c.ex
  exact ⟨d, kvs, ns, e, s _ _ h, r⟩
section
variable {P : Program} {w : World} {K : PySem.W.Frag} {mg : Str → Option Value} {base : Heap} {CC CT : Addr}
def spCosts : Sp := fun vs H Q _ => ∃ (t c h r : Addr) (cells held : List Int) (ring : Bool) (prices : List Int) (colours : Nat) (T : Tb), vs = [.ref t, .ref r, .int colours] ∧ LineIn H t c h cells held ring ∧ H r = some (.tup (prices.map V.int)) ∧ prices.length = cells.length ∧ cells.length ≤ 6 ∧
  colours ≤ 3 ∧ (∀ c ∈ cells, 0 ≤ c ∧ c < 3) ∧ (∀ k, k < cells.length → T.dom k = domL colours (cOf cells k) ∧ ∀ c, T.price k c = if c = cOf cells k then 0 else prices.getD k 0) ∧
  ∀ H' l cl, Same H H' → H' l = some (.lst cl) → (∀ k, k < cells.length → ∃ v, cl[k]? = some v ∧ CostAt H' v T k) → Q (.ref l) H'
abbrev nCosts : List Str := ["line", "prices", "colours", "found", "own", "price", "here", "one"]
theorem scCosts : FnScope nCosts ["line", "prices", "colours"] (defScope sCosts) := ⟨rfl, rfl, rfl, by decide +kernel, rfl, by decide +kernel, by decide +kernel⟩
theorem ok_costs_of {f : Addr} {fd : FuncData} (F : Fun K "costs_of" "costs_of" sCosts f fd) (T : Txt K mg CC CT) : FnOk P w K mg base CX0 1 f fd ["line", "prices", "colours"] spCosts := by
  refine F.ok scCosts (fun vs H Q E h => ?_) (fun cdv A outer s H vs Q E hr h => ?_)
  · obtain ⟨t, c, h, r, cells, held, ring, prices, colours, T', rfl, _⟩ := h
    rfl
  · obtain ⟨t, c, h, r, cells, held, ring, prices, colours, T', rfl, L, hr', hpl, l6, c3, hcell, hT, q⟩ := h
    have hu1 := hu_of hr
    have nd := scCosts.nd
    refine ⟨_, pss_cons (ps_set (i := 3) nd rfl (Or.inl rfl) (pe_lst pa_nil))
      (pss_cons (ps_for PassesOwn.never rfl (RZ.pi_zipA (by rfl) T.zZip (pa_cons (pe_ix ix_tup (pv 0) pe_int (fun _ _ => rfl)) (pa_cons (pv 1) pa_nil))) (pg_tup rfl (pgs_cons (pg_name (i := 4) nd rfl (Or.inl rfl)) (pgs_cons (pg_name (i := 5) nd rfl (Or.inr rfl)) pgs_nil)))
        (pss_cons (ps_set (i := 6) nd rfl (Or.inl rfl) (pe_callTy (call_dictP rfl) (by rfl) T.zDict (by decide +kernel) (pa_cons
          (pe_lc (own := [("one", 7)]) (g := gName 7) (tt := tYes) (te := tTup (tCons (tVar 7) (tCons (tVar 5) tNil))) rfl nd (pi_range1 (by rfl) T.zRange (pa_cons (pv 2) pa_nil)) (blkOk_by (own := [("one", 7)]) (N := nCosts) (sc := defScope sCosts) (by decide +kernel))
            (fun _ _ _ _ _ => pg_name (i := 7) nd rfl (Or.inl rfl)) (fun _ _ _ _ _ => pts_nil) (fun _ _ _ _ _ => pe_tup (pa_cons (pv 7) (pa_cons (pv 5) pa_nil)))) pa_nil)))
        (pss_cons (ps_dput hu1 (pv 6) (pv 4) pe_int rfl)
        (pss_one (ps_expr (pe_bm PySem.F.plainAttrs_list PySem.F.slot_list_append PySem.F.type_list_append mt_append (pv 3) (pa_cons (pv 6) pa_nil)))))))
      (pss_one (ps_ret (pv 3)))), ?_⟩
    refine ⟨Nat.zero_le _, fun l hl => ?_⟩
    have s0 := same_new (o := HO.lst []) hl
    refine ⟨_, rfl, t, _, _, _, rfl, rfl, SqT.of (s0 _ _ L.at_), rfl, _, rfl, c, r, cells.map V.int, prices.map V.int, rfl, .inr ⟨SqT.of (s0 _ _ L.cs), SqT.of (s0 _ _ hr'), ?_⟩⟩
    refine RZ.for_zipT (K := K) (a := c) (b := r) (xs := cells.map V.int) (ys := prices.map V.int) (by rw [List.length_map, List.length_map, hpl]) (fun i σ H1 => ∃ (y4 y5 y6 y7 : Option V) (cl : List V), σ = [some (.ref t), some (.ref r), some (.int colours), some (.ref l), y4, y5, y6, y7] ∧ Same H H1 ∧ H1 l = some (.lst cl) ∧ cl.length = i ∧
        ∀ k, k < i → ∃ v, cl[k]? = some v ∧ CostAt H1 v T' k)
      ⟨_, _, _, _, [], rfl, s0, upd_same, rfl, fun k hk => absurd hk (Nat.not_lt_zero _)⟩ (fun i σ H1 ⟨_, _, _, _, _, _, s1, _⟩ => ⟨SqT.of (s1 _ _ L.cs), SqT.of (s1 _ _ hr')⟩) ?_ ?_
    · rintro i x y tt σ H1 hx hy ⟨y4, y5, y6, y7, cl, rfl, s1, hl1, hcl, hat⟩ htt
      obtain ⟨own, hown, rfl⟩ := ints_get hx
      obtain ⟨price, hprice, rfl⟩ := ints_get hy
      have hil : i < cells.length := (List.getElem?_eq_some_iff.mp hown).1
      have hown3 := hcell own (List.mem_of_getElem? hown)
      have ecOf : cOf cells i = own := by
        unfold cOf
        rw [List.getD_eq_getElem?_getD, hown]
        rfl
      have epr : prices.getD i 0 = price := by
        rw [List.getD_eq_getElem?_getD, hprice]
        rfl
      have s2 := same_new (o := HO.tup [V.int own, V.int price]) htt
      refine ⟨tt, _, rfl, SqT.of upd_same, rfl, _, _, rfl, _, _, rfl, rfl, ?_⟩
      generalize upd H1 tt (.tup [V.int own, V.int price]) = H2 at s2 ⊢
      refine ⟨_, rfl, _, rfl, (by omega), (by omega), fun D hD => lc_range (lo := 0) (n := ((colours : Nat) : Int).toNat) (fun j H3 => ∃ ps : List Addr, Same H2 H3 ∧ H3 D = some (.lst (ps.map V.ref)) ∧ Paired (fun p (kv : Key × V) => H3 p = some (.tup [kV kv.1, kv.2])) ps (baseK j price))
        ⟨[], same_new hD, upd_same, .nil⟩ (fun j H3 hj ⟨ps, s3, hD3, hp⟩ => ?_) (fun H3 ⟨ps, s3, hD3, hp⟩ => ?_)⟩
      · refine ⟨rfl, _, rfl, _, rfl, (by show 2 ≤ sizeLine; decide), fun p hpn => ?_⟩
        rw [Int.zero_add]
        have s4 := same_new (o := HO.tup [V.int (j : Int), V.int price]) hpn
        have hpl : ps.length = j := by
          rw [Paired.length hp]
          unfold baseK
          rw [List.length_map, List.length_range]
        refine ⟨ps.map V.ref, s4 _ _ hD3, small1000 (by rw [List.length_map]; omega), ps ++ [p], same_upd (s3.trans s4) hD, by rw [upd_same, List.map_append]; rfl, ?_⟩
        have eb : baseK (j + 1) price = baseK j price ++ [(Sum.inl (j : Int), V.int price)] := by
          unfold baseK
          rw [List.range_succ, List.map_append]
          rfl
        rw [eb]
        have sT := sameT_upd (H := upd H3 p (HO.tup [V.int (j : Int), V.int price])) (a := D) (u := HO.lst (ps.map V.ref ++ [V.ref p])) (s4 _ _ hD3) (fun xs z => by cases z)
        exact Paired.snoc (Paired.mapP hp fun _ _ z => sT _ _ (s4 _ _ z)) (sT _ _ upd_same)
      · rw [Int.toNat_natCast] at hp
        refine ⟨D, ps, _, rfl, SqL.of hD3, Paired.mapP hp fun _ _ z => SqT.of z, fun d hd => ?_⟩
        have hbl : (baseK colours price).length ≤ 3 := by
          unfold baseK
          rw [List.length_map, List.length_range]
          exact c3
        rw [baseK_merge]
        refine ⟨_, rfl, _, rfl, d, _, rfl, DPut.k (k := Sum.inl own) upd_same (small1000 (by omega)), ?_⟩
        rw [upd_upd]
        have s5 := same_new (o := HO.dK (putK (baseK colours price) (Sum.inl own : Key) (V.int 0))) hd
        have sA := (s2.trans s3).trans s5
        refine ⟨_, rfl, .inl ⟨rfl, _, SqL.of (sA _ _ hl1)⟩, _, rfl, l, _, _, rfl, rfl, sA _ _ hl1, small1000 (by omega), ?_⟩
        refine ⟨_, _, _, _, cl ++ [V.ref d], rfl, same_upd (s1.trans sA) hl, upd_same, by rw [List.length_append, hcl]; rfl, fun k hk => ?_⟩
        have sK : ∀ b kvs, (upd H3 d (HO.dK (putK (baseK colours price) (Sum.inl own : Key) (V.int 0)))) b = some (.dK kvs) → (upd (upd H3 d (HO.dK (putK (baseK colours price) (Sum.inl own : Key) (V.int 0)))) l (.lst (cl ++ [V.ref d]))) b = some (.dK kvs) := fun b kvs e => by
          rw [upd_ne (ne_of e (sA _ _ hl1) (by intro z; cases z))]; exact e
        by_cases e : k < i
        · obtain ⟨v, h1, h2⟩ := hat k e
          refine ⟨v, by rw [List.getElem?_append_left (by omega)]; exact h1, h2.keepD fun b kvs z => sK _ _ (sA _ _ z)⟩
        · have ek : k = i := by omega
          subst ek
          obtain ⟨d1, d2⟩ := hT k hil
          rw [ecOf] at d1 d2
          refine ⟨V.ref d, by rw [List.getElem?_append_right (by omega), hcl, Nat.sub_self]; rfl, ⟨d, _, domL colours own, rfl, sK _ _ upd_same, costK_keys hown3.1, ?_, fun c hc => ?_⟩⟩
          · rw [d1]
          · rw [d1] at hc
            rw [d2 c, epr]
            exact costK_val hown3.1 hc
    · rintro σ H1 ⟨y4, y5, y6, y7, cl, rfl, s1, hl1, hcl, hat⟩
      rw [List.length_map] at hat
      exact ⟨_, rfl, q H1 l cl s1 hl1 hat⟩
end
end Flk

set_option Elab.async false
set_option linter.all false
set_option maxRecDepth 100000
set_option maxHeartbeats 8000000
/-! The walk, 14: Table.__init__, cheapest. -/
namespace Flk
open PySem PySem.Spec PyProof.Rows L2
def fs7 (n longest : Nat) (ring : Bool) (hd cs gl sm : Addr) : List (Str × V) :=
  putF "sums" (.ref sm) (putF "longest" (.int longest) (putF "goals" (.ref gl) (putF "costs" (.ref cs) (putF "held" (.ref hd) (putF "is_ring" (.bl ring) (putF "many" (.int n) []))))))
theorem fs7_ok (n longest : Nat) (ring : Bool) (hd cs gl sm : Addr) : TF (fs7 n longest ring hd cs gl sm) n longest ring hd cs gl sm none where
  len := by
    show (fs7 n longest ring hd cs gl sm).length ≤ 99
    unfold fs7
    have h1 := length_putF "many" (.int n) []
    have h2 := length_putF "is_ring" (.bl ring) (putF "many" (.int n) [])
    have h3 := length_putF "held" (.ref hd) (putF "is_ring" (.bl ring) (putF "many" (.int n) []))
    have h4 := length_putF "costs" (.ref cs) (putF "held" (.ref hd) (putF "is_ring" (.bl ring) (putF "many" (.int n) [])))
    have h5 := length_putF "goals" (.ref gl) (putF "costs" (.ref cs) (putF "held" (.ref hd) (putF "is_ring" (.bl ring) (putF "many" (.int n) []))))
    have h6 := length_putF "longest" (.int longest) (putF "goals" (.ref gl) (putF "costs" (.ref cs) (putF "held" (.ref hd) (putF "is_ring" (.bl ring) (putF "many" (.int n) [])))))
    have h7 := length_putF "sums" (.ref sm) (putF "longest" (.int longest) (putF "goals" (.ref gl) (putF "costs" (.ref cs) (putF "held" (.ref hd) (putF "is_ring" (.bl ring) (putF "many" (.int n) []))))))
    simp only [List.length_nil] at h1
    omega
  many := by
    unfold fs7
    rw [lookup_putF, if_neg (by decide +kernel), lookup_putF, if_neg (by decide +kernel), lookup_putF, if_neg (by decide +kernel), lookup_putF, if_neg (by decide +kernel), lookup_putF, if_neg (by decide +kernel), lookup_putF, if_neg (by decide +kernel), lookup_putF, if_pos rfl]
  ring := by
    unfold fs7
    rw [lookup_putF, if_neg (by decide +kernel), lookup_putF, if_neg (by decide +kernel), lookup_putF, if_neg (by decide +kernel), lookup_putF, if_neg (by decide +kernel), lookup_putF, if_neg (by decide +kernel), lookup_putF, if_pos rfl]
  held := by
    unfold fs7
    rw [lookup_putF, if_neg (by decide +kernel), lookup_putF, if_neg (by decide +kernel), lookup_putF, if_neg (by decide +kernel), lookup_putF, if_neg (by decide +kernel), lookup_putF, if_pos rfl]
  costs := by
    unfold fs7
    rw [lookup_putF, if_neg (by decide +kernel), lookup_putF, if_neg (by decide +kernel), lookup_putF, if_neg (by decide +kernel), lookup_putF, if_pos rfl]
  goals := by
    unfold fs7
    rw [lookup_putF, if_neg (by decide +kernel), lookup_putF, if_neg (by decide +kernel), lookup_putF, if_pos rfl]
  longest := by
    unfold fs7
    rw [lookup_putF, if_neg (by decide +kernel), lookup_putF, if_pos rfl]
  sums := by
    unfold fs7
    rw [lookup_putF, if_pos rfl]
  last := fun l e => by cases e
  no := fun m hm => by
    have h1 : m ≠ "sums" := fun e => hm (by rw [e]; decide +kernel)
    have h2 : m ≠ "longest" := fun e => hm (by rw [e]; decide +kernel)
    have h3 : m ≠ "goals" := fun e => hm (by rw [e]; decide +kernel)
    have h4 : m ≠ "costs" := fun e => hm (by rw [e]; decide +kernel)
    have h5 : m ≠ "held" := fun e => hm (by rw [e]; decide +kernel)
    have h6 : m ≠ "is_ring" := fun e => hm (by rw [e]; decide +kernel)
    have h7 : m ≠ "many" := fun e => hm (by rw [e]; decide +kernel)
    unfold fs7
    rw [lookup_putF, if_neg h1, lookup_putF, if_neg h2, lookup_putF, if_neg h3, lookup_putF, if_neg h4, lookup_putF, if_neg h5, lookup_putF, if_neg h6, lookup_putF, if_neg h7]
    rfl
theorem len_put {f : Str} {v : V} {fs : List (Str × V)} {k : Nat} (h : fs.length ≤ k) : (putF f v fs).length ≤ k + 1 := by
  have := length_putF f v fs
  omega
section
variable {P : Program} {w : World} {K : PySem.W.Frag} {mg : Str → Option Value} {base : Heap} {CC CT : Addr}
def spInit (CT : Addr) : Sp := fun vs H Q _ => ∃ (a dx fr h cs gl sm : Addr) (n longest : Nat) (held : List Int) (ring : Bool), vs = [.ref a, .ref fr, .ref cs, .ref gl, .int longest, .ref sm] ∧ H a = some (.ins CT dx []) ∧ H fr = some (.tup [.int n, .ref h, .bl ring]) ∧ H h = some (.tup (held.map V.int)) ∧
  1 ≤ n ∧ n ≤ 100 ∧ held.length ≤ 50 ∧ ∀ (H' : Hp) (fs : List (Str × V)) (hd : Addr) (hs : List Int), SameX a H H' → H' a = some (.ins CT dx fs) → TF fs n longest ring hd cs gl sm none → H' hd = some (.lst (hs.map V.int)) →
  (∀ k : Int, k ∈ hs ↔ k ∈ held ∨ (ring = false ∧ (k = 0 ∨ k = (n : Int) - 1))) → Q .non H'
abbrev nInit : List Str := ["self", "frame", "costs", "goals", "longest", "sums", "held"]
theorem scInit : FnScope nInit ["self", "frame", "costs", "goals", "longest", "sums"] (defScope sInit) := ⟨rfl, rfl, rfl, by decide +kernel, rfl, by decide +kernel, by decide +kernel⟩
theorem ok_init {f : Addr} {fd : FuncData} (F : Fun K "__init__" "Table.__init__" sInit f fd) (T : Txt K mg CC CT) (D : GFn P w K mg base 1 "held_in" ["line"] spHeldIn) : FnOk P w K mg base CX0 2 f fd ["self", "frame", "costs", "goals", "longest", "sums"] (spInit CT) := by
  obtain ⟨g, gd, GH, mH, kH, bH⟩ := D
  refine F.ok scInit (fun vs H Q E h => ?_) (fun cdv A outer s H vs Q E hr h => ?_)
  · obtain ⟨a, dx, fr, h, cs, gl, sm, n, longest, held, ring, rfl, _⟩ := h
    rfl
  · obtain ⟨a, dx, fr, h, cs, gl, sm, n, longest, held, ring, rfl, ha, hfr, hh, n1, n100, hl50, q⟩ := h
    have nd := scInit.nd
    refine ⟨_, pss_cons (ps_asg (pv 1) (pg_tup (by rfl) (pgs_cons (pg_fld (pv 0)) (pgs_cons (pg_name (i := 6) nd rfl (Or.inl rfl)) (pgs_cons (pg_fld (pv 0)) pgs_nil)))))
      (pss_cons (ps_fld (pv 0) (pe_call GH hr (by rfl) mH kH bH .nil pass0 (pa_cons (pe_tup (pa_cons (pe_op op_repA (pe_tup (pa_cons pe_int pa_nil)) (pe_fld (pv 0) rfl)) (pa_cons (pv 6) (pa_cons (pe_fld (pv 0) rfl) pa_nil)))) pa_nil)) rfl)
      (pss_cons (ps_fld (pv 0) (pv 2) rfl) (pss_cons (ps_fld (pv 0) (pv 3) rfl) (pss_cons (ps_fld (pv 0) (pv 4) rfl) (pss_one (ps_fld (pv 0) (pv 5) rfl)))))), ?_⟩
    have l0 : ([] : List (Str × V)).length ≤ 0 := Nat.le_refl _
    have l1 := len_put (f := "many") (v := .int n) l0
    have l2 := len_put (f := "is_ring") (v := .bl ring) l1
    refine ⟨_, rfl, fr, _, rfl, SqT.of hfr, rfl, _, _, rfl, _, rfl, a, CT, dx, _, rfl, ha, T.clT, T.nMany, by omega, _, _, rfl, _, _, rfl, _, rfl, a, CT, dx, _, rfl, upd_same, T.clT, T.nRing, by omega, rfl, ?_⟩
    rw [upd_upd]
    have sx1 : SameX a H (upd H a (.ins CT dx (putF "is_ring" (.bl ring) (putF "many" (.int n) [])))) := sameX_upd
    have ha1 : (upd H a (.ins CT dx (putF "is_ring" (.bl ring) (putF "many" (.int n) [])))) a = some (.ins CT dx (putF "is_ring" (.bl ring) (putF "many" (.int n) []))) := upd_same
    generalize upd H a (.ins CT dx (putF "is_ring" (.bl ring) (putF "many" (.int n) []))) = H1 at sx1 ha1 ⊢
    have hh1 := sx1 _ _ (ne_of hh ha (by intro z; cases z)) hh
    refine ⟨(by show 1 ≤ sizeLine; decide), fun p0 hp0 => ?_⟩
    have s2 := same_new (o := HO.tup [V.int 0]) hp0
    have lkM : (putF "is_ring" (.bl ring) (putF "many" (.int n) [])).lookup ("many" : Str) = some (.int n) := by
      rw [lookup_putF, if_neg (by decide +kernel), lookup_putF, if_pos rfl]
    have lkR : (putF "is_ring" (.bl ring) (putF "many" (.int n) [])).lookup ("is_ring" : Str) = some (.bl ring) := by
      rw [lookup_putF, if_pos rfl]
    refine ⟨_, rfl, a, CT, dx, _, _, rfl, s2 _ _ ha1, T.clT, T.nMany, lkM, p0, n, V.int 0, rfl, rfl, upd_same, n1, by omega, fun pz H3 s3 hpz => ?_⟩
    have s23 := s2.trans s3
    refine ⟨_, rfl, _, rfl, a, CT, dx, _, _, rfl, s23 _ _ ha1, T.clT, T.nRing, lkR, (by show 3 ≤ sizeLine; decide), fun p3 hp3 => ?_⟩
    have s4 := same_new (o := HO.tup [V.ref pz, V.ref h, V.bl ring]) hp3
    refine ⟨p3, pz, h, _, held, ring, rfl, upd_same, s4 _ _ hpz, (by rw [List.length_replicate]; exact n1), (by rw [List.length_replicate]; exact n100), s4 _ _ (s23 _ _ hh1), hl50, fun H5 hd hs s5 hhd hmem => ?_⟩
    have s25 := (s23.trans s4).trans s5
    have l3 := len_put (f := "held") (v := .ref hd) l2
    have l4 := len_put (f := "costs") (v := .ref cs) l3
    have l5 := len_put (f := "goals") (v := .ref gl) l4
    have l6 := len_put (f := "longest") (v := .int longest) l5
    refine ⟨_, rfl, a, CT, dx, _, rfl, s25 _ _ ha1, T.clT, T.nHeld, by omega, _, rfl, _, rfl, a, CT, dx, _, rfl, upd_same, T.clT, T.nCosts, by omega, _, rfl, _, rfl, a, CT, dx, _, rfl, upd_same, T.clT, T.nGoals, by omega, _, rfl, _, rfl, a, CT, dx, _, rfl, upd_same, T.clT, T.nLongest, by omega, _, rfl, _, rfl, a, CT, dx, _, rfl, upd_same, T.clT, T.nSums, by omega, ?_⟩
    rw [upd_upd, upd_upd, upd_upd, upd_upd]
    refine q _ (fs7 n longest ring hd cs gl sm) hd hs ((sx1.trans (same_x s25 a)).trans sameX_upd) upd_same (fs7_ok _ _ _ _ _ _ _) ?_ (fun k => by rw [hmem, List.length_replicate])
    rw [upd_ne (ne_of hhd (s25 _ _ ha1) (by intro z; cases z))]
    exact hhd
end
end Flk

set_option Elab.async false
set_option linter.all false
set_option maxRecDepth 100000
set_option maxHeartbeats 8000000
/-! The walk, 15: cheapest, cheapest_paint, fewest, fewest_painted. -/
namespace Flk
open PySem PySem.Spec PyProof.Rows L2
theorem same_made {H : Hp} {x dx C : Addr} (hx : H x = none) (hd : H dx = none) : Same H (upd (upd H dx (.own x)) x (.ins C dx [])) := fun b o e => by
  rw [upd_ne (ne_of_none e hx), upd_ne (ne_of_none e hd)]; exact e
def GoalV (H : Hp) (v : V) (o : Option Int) : Prop := match o with
  | none => v = V.non
  | some c => ∃ g, v = V.ref g ∧ H g = some (.tup [.int c])
theorem GoalV.keep {H H' : Hp} {v : V} {o : Option Int} (g : GoalV H v o) (s : Same H H') : GoalV H' v o := by
  cases o with
  | none => exact g
  | some c => obtain ⟨a, e, h⟩ := g; exact ⟨a, e, s _ _ h⟩
section
variable {P : Program} {w : World} {K : PySem.W.Frag} {mg : Str → Option Value} {base : Heap} {CC CT : Addr}
def spCheapest : Sp := fun vs H Q _ => ∃ (t c h g r : Addr) (cells held : List Int) (ring : Bool) (wish : List (Option Int)) (prices : List Int) (colours : Nat) (gs : List V), vs = [.ref t, .ref g, .ref r, .int colours] ∧ LineIn H t c h cells held ring ∧ LineOk cells held ring ∧
  H g = some (.lst gs) ∧ Paired (GoalV H) gs wish ∧ wish.length = cells.length ∧ H r = some (.tup (prices.map V.int)) ∧ prices.length = cells.length ∧ 1 ≤ colours ∧ colours ≤ 3 ∧ held.length ≤ 50 ∧
  ∀ H' v o, Same H H' → IsBest (mkT cells held ring wish prices colours).Spec o → OptV H' v o → Q v H'
abbrev nCheapest : List Str := ["line", "goals", "prices", "colours", "table"]
theorem scCheapest : FnScope nCheapest ["line", "goals", "prices", "colours"] (defScope sCheapest) := ⟨rfl, rfl, rfl, by decide +kernel, rfl, by decide +kernel, by decide +kernel⟩
theorem ok_cheapest {f : Addr} {fd : FuncData} (F : Fun K "cheapest" "cheapest" sCheapest f fd) (T : Txt K mg CC CT) (DF : GFn P w K mg base 1 "frame_of" ["line"] spFrame) (DC : GFn P w K mg base 1 "costs_of" ["line", "prices", "colours"] spCosts)
    (DI : ∃ (fi : Addr) (fdi : FuncData), FnOk P w K mg base CX0 2 fi fdi ["self", "frame", "costs", "goals", "longest", "sums"] (spInit CT) ∧ Mk K CT fi ∧ Binds K fdi ["self", "frame", "costs", "goals", "longest", "sums"] [] ∧ mg "Table" = some (.ref CT))
    (MO : MkO K CC) (mO : mg "Cheapest" = some (.ref CC)) (DV : MFn P w K mg base CT 6 "value" ["self"] (spValue CC CT)) : FnOk P w K mg base CX0 7 f fd ["line", "goals", "prices", "colours"] spCheapest := by
  obtain ⟨gf, gfd, GF, mF, kF, bF⟩ := DF
  obtain ⟨gc, gcd, GC, mC, kC, bC⟩ := DC
  obtain ⟨fi, fdi, GI, MK, bI, mT⟩ := DI
  obtain ⟨fv, dv, GV, mV, bV⟩ := DV
  refine F.ok scCheapest (fun vs H Q E h => ?_) (fun cdv A outer s H vs Q E hr h => ?_)
  · obtain ⟨t, c, h, g, r, cells, held, ring, wish, prices, colours, gs, rfl, _⟩ := h
    rfl
  · obtain ⟨t, c, h, g, r, cells, held, ring, wish, prices, colours, gs, rfl, L, W, hg, hgp, hwl, hr', hpl, c1, c3, h50, q⟩ := h
    have hr1 : Room 1 _ := hr.mono (by decide)
    have hr3 : Room 3 _ := hr.mono (by decide)
    have nd := scCheapest.nd
    refine ⟨_, pss_cons (ps_set (i := 4) nd rfl (Or.inl rfl) (pe_make MK GI hr3 (by rfl) mT bI .nil pass0 (pa_cons (pe_call GF hr1 (by rfl) mF kF bF .nil pass0 (pa_cons (pv 0) pa_nil))
        (pa_cons (pe_call GC hr1 (by rfl) mC kC bC .nil pass0 (pa_cons (pv 0) (pa_cons (pv 2) (pa_cons (pv 3) pa_nil)))) (pa_cons (pv 1)
        (pa_cons (pe_op op_add (pe_callB call_len_seq (by rfl) T.zLen PySem.boot_len (pa_cons (pe_ix ix_tup (pv 0) pe_int (fun _ _ => rfl)) pa_nil)) pe_int) (pa_cons (pe_makeO MO (by rfl) mO) pa_nil)))))))
      (pss_one (ps_ret (pe_meth0 (pv 4) T.clT mV GV hr bV .nil pass0))), ?_⟩
    have W' : TabW (mkT cells held ring wish prices colours) := mkT_w W c1 c3
    have l1 := W.len1
    have l6 := W.len6
    refine ⟨_, rfl, t, c, h, cells, held, ring, rfl, L, fun H1 fr s1 hfr => ?_⟩
    refine ⟨_, rfl, _, rfl, _, rfl, t, c, h, r, cells, held, ring, prices, colours, mkT cells held ring wish prices colours, rfl, L.keep s1, s1 _ _ hr', hpl, l6, c3, W.cell, (fun k hk => ⟨rfl, fun c => rfl⟩), fun H2 cl cls s2 hcl hat => ?_⟩
    have s12 := s1.trans s2
    refine ⟨_, rfl, _, rfl, t, _, _, _, rfl, rfl, SqT.of (s12 _ _ L.at_), rfl, c, _, rfl, .inr (SqT.of (s12 _ _ L.cs)), _, _, rfl, rfl, fun sm sx hsm hsx hne => ?_⟩
    have s3 : Same H2 (upd (upd H2 sx (.own sm)) sm (.ins CC sx [])) := same_made hsm hsx
    have hsm3 : (upd (upd H2 sx (.own sm)) sm (.ins CC sx [])) sm = some (.ins CC sx []) := upd_same
    generalize upd (upd H2 sx (.own sm)) sm (.ins CC sx []) = H3 at s3 hsm3 ⊢
    intro a dx ha hdx hne2
    have s4 : Same H3 (upd (upd H3 dx (.own a)) a (.ins CT dx [])) := same_made ha hdx
    have ha4 : (upd (upd H3 dx (.own a)) a (.ins CT dx [])) a = some (.ins CT dx []) := upd_same
    generalize upd (upd H3 dx (.own a)) a (.ins CT dx []) = H4 at s4 ha4 ⊢
    have s14 := (s12.trans s3).trans s4
    refine ⟨a, dx, fr, h, cl, g, sm, cells.length, cells.length + 1, held, ring, (by rw [List.length_map]; rfl), ha4, (s2.trans (s3.trans s4)) _ _ hfr, s14 _ _ L.hs, l1, by omega, h50, fun H5 fs hd hs sX hha hTF hhd hmem => ⟨rfl, ?_⟩⟩
    have s25 : Same H2 H5 := sameX_new (s3.trans s4) (s3.free ha) sX
    have s05 : Same H H5 := s12.trans s25
    have hsma : sm ≠ a := ne_of_none hsm3 ha
    have hTD : TabD CC H5 (mkT cells held ring wish prices colours) hd cl g sm := by
      refine ⟨⟨hs, hhd, fun k hk => ?_⟩, ⟨cls, s25 _ _ hcl, fun k hk => ?_⟩, ⟨gs, s05 _ _ hg, fun k hk => ?_⟩, ⟨sx, sX _ _ hsma (s4 _ _ hsm3)⟩⟩
      · show decide ((k : Int) ∈ hs) = decide ((k : Int) ∈ held ∨ (ring = false ∧ ((k : Int) = 0 ∨ (k : Int) = (cells.length : Int) - 1)))
        rw [decide_eq_decide]
        exact hmem k
      · obtain ⟨v, h1, h2⟩ := hat k hk
        exact ⟨v, h1, h2.keepD fun b kvs z => s25 _ _ z⟩
      · have hk' : k < gs.length := by
          have := Paired.length hgp
          have : k < cells.length := hk
          omega
        obtain ⟨o, ho, hgv⟩ := paired_get hgp (List.getElem?_eq_getElem hk')
        refine ⟨gs[k], List.getElem?_eq_getElem hk', ?_⟩
        have eo : wish.getD k none = o := by
          rw [List.getD_eq_getElem?_getD, ho]
          rfl
        cases o with
        | none =>
          refine .inl ⟨hgv, fun c => ?_⟩
          show (match wish.getD k none with | none => true | some w => c == w) = true
          rw [eo]
        | some z =>
          obtain ⟨b, e, hz⟩ := hgv
          refine .inr ⟨b, z, e, s05 _ _ hz, fun c => ?_⟩
          show (match wish.getD k none with | none => true | some w => c == w) = (c == z)
          rw [eo]
    refine ⟨_, rfl, a, dx, fs, rfl, hha, hTF.no _ (by decide +kernel), a, mkT cells held ring wish prices colours, ring, none, rfl, ⟨dx, fs, hd, cl, g, sm, hha, hTF, hTD⟩, W', (fun e => ?_), (fun e => ⟨?_, ?_⟩), fun H6 v o sX6 hb hv => q H6 v o ?_ hb hv⟩
    · have := W.ring e
      show 1 < cells.length
      omega
    · exact decide_eq_true (.inr ⟨e, .inl rfl⟩)
    · refine decide_eq_true (.inr ⟨e, .inr ?_⟩)
      show ((cells.length - 1 : Nat) : Int) = (cells.length : Int) - 1
      omega
    · exact sameX_new s05 (s12.free (s3.free ha)) sX6
/-! ### cheapest_paint -/
def spPaint : Sp := fun vs H Q _ => ∃ (t c h a r : Addr) (cells held : List Int) (ring : Bool) (wish : List (Option Int)) (prices : List Int) (colours : Nat), vs = [.ref t, .ref a, .ref r, .int colours] ∧ LineIn H t c h cells held ring ∧ LineOk cells held ring ∧ held.length ≤ 50 ∧ H a = some (.tup (wish.map oV)) ∧ WishOk cells.length wish ∧
  H r = some (.tup (prices.map V.int)) ∧ PricesOk cells.length prices ∧ 1 ≤ colours ∧ colours ≤ 3 ∧ ∀ H' v o, Same H H' → IsBest (mkT cells held ring wish prices colours).Spec o → OptV H' v o → Q v H'
theorem scPaint : FnScope ["line", "wish", "prices", "colours"] ["line", "wish", "prices", "colours"] (defScope sPaint) := ⟨rfl, rfl, rfl, by decide +kernel, rfl, by decide +kernel, by decide +kernel⟩
theorem ok_cheapest_paint {f : Addr} {fd : FuncData} (F : Fun K "cheapest_paint" "cheapest_paint" sPaint f fd) (T : Txt K mg CC CT) (DN : GFn P w K mg base 5 "need_paint" ["line", "wish", "prices", "colours"] spNeedPaint) (DG : GFn P w K mg base 1 "goals_of" ["wish"] spGoals)
    (DC : GFn P w K mg base 7 "cheapest" ["line", "goals", "prices", "colours"] spCheapest) : FnOk P w K mg base CX0 8 f fd ["line", "wish", "prices", "colours"] spPaint := by
  obtain ⟨gn, gnd, GN, mN, kN, bN⟩ := DN
  obtain ⟨gg, ggd, GG, mG, kG, bG⟩ := DG
  obtain ⟨gc, gcd, GC, mC, kC, bC⟩ := DC
  refine F.ok scPaint (fun vs H Q E h => ?_) (fun cdv A outer s H vs Q E hr h => ?_)
  · obtain ⟨t, c, h, a, r, cells, held, ring, wish, prices, colours, rfl, _⟩ := h
    rfl
  · obtain ⟨t, c, h, a, r, cells, held, ring, wish, prices, colours, rfl, L, W, h50, ha, hw, hr', hp, c1, c3, q⟩ := h
    have hr1 : Room 1 _ := hr.mono (by decide)
    have hr5 : Room 5 _ := hr.mono (by decide)
    refine ⟨_, pss_cons (ps_expr (pe_call GN hr5 (by rfl) mN kN bN .nil pass0 (pa_cons (pv 0) (pa_cons (pv 1) (pa_cons (pv 2) (pa_cons (pv 3) pa_nil))))))
      (pss_one (ps_ret (pe_call GC hr (by rfl) mC kC bC .nil pass0 (pa_cons (pv 0) (pa_cons (pe_call GG hr1 (by rfl) mG kG bG .nil pass0 (pa_cons (pv 1) pa_nil)) (pa_cons (pv 2) (pa_cons (pv 3) pa_nil))))))), ?_⟩
    have l6 := W.len6
    refine ⟨_, rfl, _, rfl, _, rfl, _, rfl, t, c, h, a, r, cells, held, ring, wish, prices, colours, rfl, L, W, ha, hw, hr', hp, c1, c3, fun H1 s1 => ?_⟩
    refine ⟨_, rfl, _, rfl, a, wish, rfl, s1 _ _ ha, by rw [hw.1]; omega, fun H2 l gs s2 hl hgs => ?_⟩
    have s12 := s1.trans s2
    exact ⟨_, rfl, _, rfl, t, c, h, l, r, cells, held, ring, wish, prices, colours, gs, rfl, L.keep s12, W, hl, Paired.mapP hgs (fun v o z => by cases o <;> exact z), hw.1, s12 _ _ hr', hp.1, c1, c3, h50, fun H3 v o s3 hb hv => q H3 v o (s12.trans s3) hb hv⟩
/-! ### fewest -/
def spFewest : Sp := fun vs H Q _ => ∃ (t c h g : Addr) (cells held : List Int) (ring : Bool) (wish : List (Option Int)) (colours : Nat) (gs : List V), vs = [.ref t, .ref g, .int colours] ∧ LineIn H t c h cells held ring ∧ LineOk cells held ring ∧
  H g = some (.lst gs) ∧ Paired (GoalV H) gs wish ∧ wish.length = cells.length ∧ 1 ≤ colours ∧ colours ≤ 3 ∧ held.length ≤ 50 ∧
  ∀ H' v o, Same H H' → IsBest (mkT cells held ring wish (List.replicate cells.length 1) colours).Spec o → v = (match o with | none => V.non | some u => V.int u.1) → Q v H'
theorem scFewest : FnScope ["line", "goals", "colours", "found"] ["line", "goals", "colours"] (defScope sFewest) := ⟨rfl, rfl, rfl, by decide +kernel, rfl, by decide +kernel, by decide +kernel⟩
theorem ok_fewest {f : Addr} {fd : FuncData} (F : Fun K "fewest" "fewest" sFewest f fd) (T : Txt K mg CC CT) (DC : GFn P w K mg base 7 "cheapest" ["line", "goals", "prices", "colours"] spCheapest) : FnOk P w K mg base CX0 8 f fd ["line", "goals", "colours"] spFewest := by
  obtain ⟨gc, gcd, GC, mC, kC, bC⟩ := DC
  refine F.ok scFewest (fun vs H Q E h => ?_) (fun cdv A outer s H vs Q E hr h => ?_)
  · obtain ⟨t, c, h, g, cells, held, ring, wish, colours, gs, rfl, _⟩ := h
    rfl
  · obtain ⟨t, c, h, g, cells, held, ring, wish, colours, gs, rfl, L, W, hg, hgs, hwl, c1, c3, h50, q⟩ := h
    have nd := scFewest.nd
    have l1 := W.len1
    have l6 := W.len6
    refine ⟨_, pss_cons (ps_set (i := 3) nd rfl (Or.inl rfl) (pe_call GC hr (by rfl) mC kC bC .nil pass0 (pa_cons (pv 0) (pa_cons (pv 1) (pa_cons (pe_op op_repA (pe_tup (pa_cons pe_int pa_nil)) (pe_callB call_len_seq (by rfl) T.zLen PySem.boot_len (pa_cons (pe_ix ix_tup (pv 0) pe_int (fun _ _ => rfl)) pa_nil))) (pa_cons (pv 2) pa_nil))))))
      (pss_one (ps_ret (pe_ifExp (pt_cmpR op_isN (pv 3) pe_non (nomark _)) pe_non (pe_ix ix_tup (pv 3) pe_int (fun _ _ => rfl))))), ?_⟩
    refine ⟨_, rfl, _, rfl, (by show 1 ≤ sizeLine; decide), fun p0 hp0 => ?_⟩
    have s1 := same_new (o := HO.tup [V.int 1]) hp0
    refine ⟨_, rfl, t, _, _, _, rfl, rfl, SqT.of (s1 _ _ L.at_), rfl, c, _, rfl, .inr (SqT.of (s1 _ _ L.cs)), p0, cells.length, V.int 1, rfl, by rw [List.length_map], upd_same, l1, by omega, fun p H2 s2 hp => ?_⟩
    have s12 := s1.trans s2
    refine ⟨_, rfl, t, c, h, g, p, cells, held, ring, wish, List.replicate cells.length 1, colours, gs, rfl, L.keep s12, W, s12 _ _ hg, Paired.mapP hgs (fun v o z => z.keep s12), hwl, (by rw [List.map_replicate]; exact hp), by rw [List.length_replicate], c1, c3, h50, fun H3 v o s3 hb hv => ?_⟩
    refine ⟨_, rfl, rfl, _, rfl, ?_⟩
    have s13 := s12.trans s3
    cases o with
    | none =>
      obtain rfl : v = .non := hv
      exact iteY rfl (q H3 _ none s13 hb rfl)
    | some u =>
      obtain ⟨t1, t2, rfl, h1, h2⟩ := (show ValAt H3 v u from hv)
      exact iteE rfl ⟨_, rfl, t1, _, _, _, rfl, rfl, SqT.of h1, rfl, q H3 _ (some u) s13 hb rfl⟩
/-! ### fewest_painted -/
def spPainted : Sp := fun vs H Q _ => ∃ (t c h a : Addr) (cells held : List Int) (ring : Bool) (wish : List (Option Int)) (colours : Nat), vs = [.ref t, .ref a, .int colours] ∧ LineIn H t c h cells held ring ∧ LineOk cells held ring ∧ held.length ≤ 50 ∧ H a = some (.tup (wish.map oV)) ∧ WishOk cells.length wish ∧
  1 ≤ colours ∧ colours ≤ 3 ∧ ∀ H' v o, Same H H' → IsBest (mkT cells held ring wish (List.replicate cells.length 1) colours).Spec o → v = (match o with | none => V.non | some u => V.int u.1) → Q v H'
theorem scPainted : FnScope ["line", "wish", "colours"] ["line", "wish", "colours"] (defScope sPainted) := ⟨rfl, rfl, rfl, by decide +kernel, rfl, by decide +kernel, by decide +kernel⟩
theorem ok_fewest_painted {f : Addr} {fd : FuncData} (F : Fun K "fewest_painted" "fewest_painted" sPainted f fd) (T : Txt K mg CC CT) (DN : GFn P w K mg base 4 "need_wish" ["line", "wish"] spNeedWish) (DC : GFn P w K mg base 2 "need_colours" ["colours"] spNeedCol) (DG : GFn P w K mg base 1 "goals_of" ["wish"] spGoals)
    (DF : GFn P w K mg base 8 "fewest" ["line", "goals", "colours"] spFewest) : FnOk P w K mg base CX0 9 f fd ["line", "wish", "colours"] spPainted := by
  obtain ⟨gn, gnd, GN, mN, kN, bN⟩ := DN
  obtain ⟨gc, gcd, GC, mC, kC, bC⟩ := DC
  obtain ⟨gg, ggd, GG, mG, kG, bG⟩ := DG
  obtain ⟨gf, gfd, GF, mF, kF, bF⟩ := DF
  refine F.ok scPainted (fun vs H Q E h => ?_) (fun cdv A outer s H vs Q E hr h => ?_)
  · obtain ⟨t, c, h, a, cells, held, ring, wish, colours, rfl, _⟩ := h
    rfl
  · obtain ⟨t, c, h, a, cells, held, ring, wish, colours, rfl, L, W, h50, ha, hw, c1, c3, q⟩ := h
    have hr1 : Room 1 _ := hr.mono (by decide)
    have hr2 : Room 2 _ := hr.mono (by decide)
    have hr4 : Room 4 _ := hr.mono (by decide)
    have l6 := W.len6
    refine ⟨_, pss_cons (ps_expr (pe_call GN hr4 (by rfl) mN kN bN .nil pass0 (pa_cons (pv 0) (pa_cons (pv 1) pa_nil)))) (pss_cons (ps_expr (pe_call GC hr2 (by rfl) mC kC bC .nil pass0 (pa_cons (pv 2) pa_nil)))
      (pss_one (ps_ret (pe_call GF hr (by rfl) mF kF bF .nil pass0 (pa_cons (pv 0) (pa_cons (pe_call GG hr1 (by rfl) mG kG bG .nil pass0 (pa_cons (pv 1) pa_nil)) (pa_cons (pv 2) pa_nil))))))), ?_⟩
    refine ⟨_, rfl, _, rfl, t, c, h, a, cells, held, ring, wish, rfl, L, W, ha, hw, fun H1 s1 => ?_⟩
    refine ⟨_, rfl, _, rfl, by omega, by omega, ?_⟩
    refine ⟨_, rfl, _, rfl, a, wish, rfl, s1 _ _ ha, by rw [hw.1]; omega, fun H2 l gs s2 hl hgs => ?_⟩
    have s12 := s1.trans s2
    exact ⟨_, rfl, t, c, h, l, cells, held, ring, wish, colours, gs, rfl, L.keep s12, W, hl, Paired.mapP hgs (fun v o z => by cases o <;> exact z), hw.1, c1, c3, h50, fun H3 v o s3 hb hv => q H3 v o (s12.trans s3) hb hv⟩
end
end Flk

set_option Elab.async false
set_option linter.all false
set_option maxRecDepth 100000
set_option maxHeartbeats 8000000
/-! The walk, 16: what the law takes from its script. -/
namespace Flk
open PySem PySem.Spec PyProof.Rows L2
/-- the law's row: the script, how many of it were taken, the seed, the rest -/
structure RowI (K : PySem.W.Frag) (H : Hp) (r a : Addr) (ns : List Int) : Prop where
  ex : ∃ i s d : Int, 0 ≤ i ∧ H r = some (.lst [.ref a, .int i, .int s, .int d])
  sc : SqL K H a (ns.map V.int)
theorem sql_keepX {K : PySem.W.Frag} {H H' : Hp} {r a b : Addr} {ns : List Int} {x y z : V} (h : SqL K H a (ns.map V.int)) (hr : H r = some (.lst [.ref b, x, y, z])) (s : SameX r H H') : SqL K H' a (ns.map V.int) := by
  rcases h with h | h
  · refine .inl ?_
    rcases h with h | ⟨o, h⟩
    · refine .inl (s _ _ (ne_of h hr ?_) h)
      intro e
      cases ns with
      | nil => cases e
      | cons n ns => cases e
    · exact .inr ⟨o, s _ _ (ne_of h hr (by intro z; cases z)) h⟩
  · exact .inr h
section
variable {P : Program} {w : World} {K : PySem.W.Frag} {mg : Str → Option Value} {base : Heap} {CC CT : Addr}
def spTaken (K : PySem.W.Frag) : Sp := fun vs H Q _ => ∃ (r a : Addr) (ns : List Int) (m : Int), vs = [.ref r, .int m] ∧ RowI K H r a ns ∧ 1 ≤ m ∧ m ≤ 100000 ∧ ∀ H' v, SameX r H H' → RowI K H' r a ns → 0 ≤ v → v < m → Q (.int v) H'
abbrev nTaken : List Str := ["_law_row", "_law_many", "_law_found", "_law_cell"]
theorem scTaken : FnScope nTaken ["_law_row", "_law_many"] (defScope sTaken) := ⟨rfl, rfl, rfl, by decide +kernel, rfl, by decide +kernel, by decide +kernel⟩
theorem ok_taken {f : Addr} {fd : FuncData} (F : Fun K "_law_taken" "_law_taken" sTaken f fd) (T : Txt K mg CC CT) : FnOk P w K mg base CX0 1 f fd ["_law_row", "_law_many"] (spTaken K) := by
  refine F.ok scTaken (fun vs H Q E h => ?_) (fun cdv A outer s H vs Q E hr h => ?_)
  · obtain ⟨r, a, ns, m, rfl, _⟩ := h
    rfl
  · obtain ⟨r, a, ns, m, rfl, ⟨⟨i, sd, d, hi, hH⟩, hS⟩, m1, m2, q⟩ := h
    have nd := scTaken.nd
    refine ⟨_, pss_cons (ps_if (pt_cmpR op_gt (pe_ix ix_list (pv 0) pe_int (fun _ _ => rfl)) pe_int (nomark _))
        (pss_cons (ps_set (i := 2) nd rfl (Or.inl rfl) (pe_op op_mod (pe_callTy call_int1 (by rfl) T.zInt (by decide +kernel) (pa_cons (pe_ix ix_list (pv 0) pe_int (fun _ _ => rfl)) pa_nil)) (pv 1)))
        (pss_cons (ps_asg (pe_op op_fdiv (pe_ix ix_list (pv 0) pe_int (fun _ _ => rfl)) (pv 1)) (pg_sub (pv 0) pe_int set_list))
        (pss_one (ps_ret (pv 2))))) pss_nil)
      (pss_cons (ps_asg (pe_op op_add (pe_ix ix_list (pv 0) pe_int (fun _ _ => rfl)) pe_int) (pg_sub (pv 0) pe_int set_list))
      (pss_cons (ps_if (pt_cmpR op_gt (pe_ix ix_list (pv 0) pe_int (fun _ _ => rfl)) (pe_callB call_len_seq (by rfl) T.zLen PySem.boot_len (pa_cons (pe_ix ix_list (pv 0) pe_int (fun _ _ => rfl)) pa_nil)) (nomark _))
        (pss_cons (ps_asg (pe_op op_mod (pe_callTy call_int1 (by rfl) T.zInt (by decide +kernel) (pa_cons (pe_op op_add (pe_op op_mul (pe_ix ix_list (pv 0) pe_int (fun _ _ => rfl)) pe_int) pe_int) pa_nil)) pe_int) (pg_sub (pv 0) pe_int set_list))
        (pss_one (ps_ret (pe_op op_mod (pe_callTy call_int1 (by rfl) T.zInt (by decide +kernel) (pa_cons (pe_op op_fdiv (pe_ix ix_list (pv 0) pe_int (fun _ _ => rfl)) pe_int) pa_nil)) (pv 1))))) pss_nil)
      (pss_cons (ps_set (i := 3) nd rfl (Or.inl rfl) (pe_ix ix_list (pe_ix ix_list (pv 0) pe_int (fun _ _ => rfl)) (pe_op op_sub (pe_ix ix_list (pv 0) pe_int (fun _ _ => rfl)) pe_int) (fun _ _ => rfl)))
      (pss_cons (ps_asg (pe_op op_mod (pe_callTy call_int1 (by rfl) T.zInt (by decide +kernel) (pa_cons (pe_op op_add (pe_op op_add (pe_op op_mul (pe_ix ix_list (pv 0) pe_int (fun _ _ => rfl)) pe_int) (pv 3)) pe_int) pa_nil)) pe_int) (pg_sub (pv 0) pe_int set_list))
      (pss_cons (ps_if (pt_cmpR op_ge (pv 3) (pe_op op_pow pe_int pe_int) (nomark _)) (pss_one (ps_asg (pe_op op_fdiv (pv 3) (pv 1)) (pg_sub (pv 0) pe_int set_list))) pss_nil)
      (pss_one (ps_ret (pe_op op_mod (pe_callTy call_int1 (by rfl) T.zInt (by decide +kernel) (pa_cons (pv 3) pa_nil)) (pv 1))))))))), ?_⟩
    have hS' : ∀ H', SameX r H H' → SqL K H' a (ns.map V.int) := fun H' s => sql_keepX hS hH s
    have hm : (0 : Int) < m := by omega
    refine ⟨_, rfl, r, _, _, _, rfl, rfl, SqL.of hH, rfl, _, _, rfl, rfl, _, rfl, ?_⟩
    by_cases hd : (0 : Int) < d
    · refine iteY (decide_eq_true hd) ?_
      refine ⟨_, rfl, r, _, _, _, rfl, rfl, SqL.of hH, rfl, .inl ⟨_, rfl, _, rfl, _, _, rfl, rfl, hm, ?_⟩⟩
      refine ⟨_, rfl, r, _, _, _, rfl, rfl, SqL.of hH, rfl, _, rfl, _, _, rfl, rfl, ⟨hm, by omega⟩, _, rfl, r, _, _, 3, rfl, rfl, hH, rfl, ?_⟩
      exact ⟨_, rfl, q _ _ sameX_upd ⟨⟨i, sd, d / m, hi, upd_same⟩, hS' _ sameX_upd⟩ (Int.emod_nonneg _ (by omega)) (Int.emod_lt_of_pos _ hm)⟩
    · refine iteE (decide_eq_false hd) ?_
      refine ⟨_, rfl, r, _, _, _, rfl, rfl, SqL.of hH, rfl, _, _, rfl, rfl, _, rfl, r, _, _, 1, rfl, rfl, hH, rfl, ?_⟩
      have sx1 : SameX r H (upd H r (.lst [.ref a, .int (i + 1), .int sd, .int d])) := sameX_upd
      have h1 : (upd H r (.lst [.ref a, .int (i + 1), .int sd, .int d])) r = some (.lst [.ref a, .int (i + 1), .int sd, .int d]) := upd_same
      show tSeq _ _ _ _ (upd H r (.lst [.ref a, .int (i + 1), .int sd, .int d]))
      generalize upd H r (.lst [.ref a, .int (i + 1), .int sd, .int d]) = H1 at sx1 h1 ⊢
      refine ⟨_, rfl, r, _, _, _, rfl, rfl, SqL.of h1, rfl, _, rfl, r, _, _, _, rfl, rfl, SqL.of h1, rfl, a, _, rfl, .inl (hS' _ sx1), _, _, rfl, rfl, _, rfl, ?_⟩
      by_cases hl : (((ns.map V.int).length : Nat) : Int) < i + 1
      · refine iteY (decide_eq_true hl) ?_
        refine ⟨_, rfl, r, _, _, _, rfl, rfl, SqL.of h1, rfl, _, _, rfl, rfl, .inr (by decide), _, _, rfl, rfl, .inl ⟨_, rfl, _, _, rfl, rfl, (by show (0 : Int) < 2147483647; decide), _, rfl, r, _, _, 2, rfl, rfl, h1, rfl, ?_⟩⟩
        refine ⟨_, rfl, r, _, _, _, rfl, rfl, SqL.of upd_same, rfl, _, _, rfl, rfl, (by show CDiv _ 7; exact ⟨by decide, by decide⟩), .inl ⟨_, rfl, _, rfl, _, _, rfl, rfl, hm, ?_⟩⟩
        exact q _ _ (sx1.trans sameX_upd) ⟨⟨i + 1, _, d, by omega, upd_same⟩, hS' _ (sx1.trans sameX_upd)⟩ (Int.emod_nonneg _ (by omega)) (Int.emod_lt_of_pos _ hm)
      · refine iteE (decide_eq_false hl) ?_
        rw [List.length_map] at hl
        have hil : i.toNat < ns.length := by omega
        have hix : atI (ns.map V.int) (i + 1 - 1) = some (V.int ns[i.toNat]) := by
          have : i + 1 - 1 = ((i.toNat : Nat) : Int) := by omega
          rw [this]
          exact atI_nat (by rw [List.getElem?_map, List.getElem?_eq_getElem hil]; rfl)
        refine ⟨_, rfl, r, _, _, _, rfl, rfl, SqL.of h1, rfl, _, rfl, r, _, _, _, rfl, rfl, SqL.of h1, rfl, _, _, rfl, rfl, a, _, _, _, rfl, rfl, hS' _ sx1, hix, ?_⟩
        generalize ns[i.toNat] = cell
        refine ⟨_, rfl, r, _, _, _, rfl, rfl, SqL.of h1, rfl, _, _, rfl, rfl, .inr (by decide), _, rfl, _, _, rfl, rfl, _, _, rfl, rfl, .inl ⟨_, rfl, _, _, rfl, rfl, (by show (0 : Int) < 2147483647; decide), _, rfl, r, _, _, 2, rfl, rfl, h1, rfl, ?_⟩⟩
        refine ⟨_, rfl, _, _, rfl, rfl, (by show CPow 10 18; exact ⟨by decide, by decide, by decide⟩), _, _, rfl, rfl, _, rfl, ?_⟩
        refine ite2 (fun hc => ?_) (fun hc => ?_)
        · refine ⟨_, rfl, _, rfl, _, _, rfl, rfl, ⟨hm, by omega⟩, _, rfl, r, _, _, 3, rfl, rfl, upd_same, rfl, ?_⟩
          refine ⟨_, rfl, .inl ⟨_, rfl, _, rfl, _, _, rfl, rfl, hm, ?_⟩⟩
          exact q _ _ ((sx1.trans sameX_upd).trans sameX_upd) ⟨⟨i + 1, _, cell / m, by omega, upd_same⟩, hS' _ ((sx1.trans sameX_upd).trans sameX_upd)⟩ (Int.emod_nonneg _ (by omega)) (Int.emod_lt_of_pos _ hm)
        · refine ⟨_, rfl, .inl ⟨_, rfl, _, rfl, _, _, rfl, rfl, hm, ?_⟩⟩
          exact q _ _ (sx1.trans sameX_upd) ⟨⟨i + 1, _, d, by omega, upd_same⟩, hS' _ (sx1.trans sameX_upd)⟩ (Int.emod_nonneg _ (by omega)) (Int.emod_lt_of_pos _ hm)
/-! ### _law_pick -/
def spPick (K : PySem.W.Frag) : Sp := fun vs H Q _ => ∃ (r a l : Addr) (ns : List Int) (zs : List V), vs = [.ref r, .ref l] ∧ RowI K H r a ns ∧ H l = some (.lst zs) ∧ l ≠ r ∧ 1 ≤ zs.length ∧ zs.length ≤ 100 ∧ ∀ H' v, SameX r H H' → RowI K H' r a ns → v ∈ zs → Q v H'
theorem scPick : FnScope ["_law_row", "_law_things"] ["_law_row", "_law_things"] (defScope sPick) := ⟨rfl, rfl, rfl, by decide +kernel, rfl, by decide +kernel, by decide +kernel⟩
theorem ok_pick {f : Addr} {fd : FuncData} (F : Fun K "_law_pick" "_law_pick" sPick f fd) (T : Txt K mg CC CT) (DT : GFn P w K mg base 1 "_law_taken" ["_law_row", "_law_many"] (spTaken K)) : FnOk P w K mg base CX0 2 f fd ["_law_row", "_law_things"] (spPick K) := by
  obtain ⟨gt, gtd, GT, mT, kT, bT⟩ := DT
  refine F.ok scPick (fun vs H Q E h => ?_) (fun cdv A outer s H vs Q E hr h => ?_)
  · obtain ⟨r, a, l, ns, zs, rfl, _⟩ := h
    rfl
  · obtain ⟨r, a, l, ns, zs, rfl, hR, hl, hne, z1, z2, q⟩ := h
    refine ⟨_, pss_one (ps_ret (pe_ix ix_list (pv 1) (pe_call GT hr (by rfl) mT kT bT .nil pass0 (pa_cons (pv 0) (pa_cons (pe_callB call_len_seq (by rfl) T.zLen PySem.boot_len (pa_cons (pv 1) pa_nil)) pa_nil))) (fun _ _ => rfl))), ?_⟩
    refine ⟨_, rfl, _, rfl, _, rfl, l, _, rfl, .inl (SqL.of hl), r, a, ns, _, rfl, hR, by omega, by omega, fun H1 v s1 hR1 v0 v1 => ?_⟩
    have hv : v.toNat < zs.length := by omega
    have hat := atI_nat (xs := zs) (j := v.toNat) (List.getElem?_eq_getElem hv)
    rw [Int.toNat_of_nonneg v0] at hat
    exact ⟨l, zs, v, _, rfl, rfl, SqL.of (s1 _ _ hne hl), hat, q H1 _ s1 hR1 (List.getElem_mem hv)⟩
end
end Flk

set_option Elab.async false
set_option linter.all false
set_option maxRecDepth 100000
set_option maxHeartbeats 8000000
/-! The walk, 17: _law_small, _law_wish. -/
namespace Flk
open PySem PySem.Spec PyProof.Rows L2
theorem RowI.of {K : PySem.W.Frag} {H H' : Hp} {r a : Addr} {ns : List Int} (R : RowI K H r a ns) (s : SameX r H H') (e : ∃ i s d : Int, 0 ≤ i ∧ H' r = some (.lst [.ref a, .int i, .int s, .int d])) : RowI K H' r a ns := by
  obtain ⟨i, sd, d, _, h⟩ := R.ex
  exact ⟨e, sql_keepX R.sc h s⟩
theorem RowI.keep {K : PySem.W.Frag} {H H' : Hp} {r a : Addr} {ns : List Int} (R : RowI K H r a ns) (s : Same H H') : RowI K H' r a ns := by
  obtain ⟨i, sd, d, hi, h⟩ := id R.ex
  exact R.of (same_x s r) ⟨i, sd, d, hi, s _ _ h⟩
theorem RowI.some {K : PySem.W.Frag} {H : Hp} {r a : Addr} {ns : List Int} (R : RowI K H r a ns) : ∃ o, H r = some (.lst o) := by
  obtain ⟨i, sd, d, hi, h⟩ := R.ex
  exact ⟨_, h⟩
theorem sameX_upd_new {H H' : Hp} {r D : Addr} {o : HO} (s : SameX r H H') (hD : H D = none) : SameX r H (upd H' D o) := fun b u n e => by
  rw [upd_ne (ne_of_none e hD)]; exact s b u n e
theorem RowI.upd {K : PySem.W.Frag} {H H' : Hp} {r a D : Addr} {ns : List Int} {o : HO} (R1 : RowI K H r a ns) (s : SameX r H H') (hD : H D = none) (R : RowI K H' r a ns) : RowI K (L2.upd H' D o) r a ns := by
  obtain ⟨x, hx⟩ := R1.some
  obtain ⟨i, sd, d, hi, h⟩ := R.ex
  exact R1.of (sameX_upd_new s hD) ⟨i, sd, d, hi, by rw [upd_ne (ne_of_none hx hD)]; exact h⟩
section
variable {P : Program} {w : World} {K : PySem.W.Frag} {mg : Str → Option Value} {base : Heap} {CC CT : Addr}
def spSmall (K : PySem.W.Frag) : Sp := fun vs H Q _ => ∃ (r a : Addr) (ns : List Int), vs = [.ref r] ∧ RowI K H r a ns ∧ ∀ (H' : Hp) (p f h : Addr) (colours many : Nat) (held : List Int) (ring : Bool), SameX r H H' → RowI K H' r a ns → H' p = some (.tup [.ref f, .int colours]) →
  H' f = some (.tup [.int many, .ref h, .bl ring]) → H' h = some (.tup (held.map V.int)) → 1 ≤ colours → colours ≤ 3 → 1 ≤ many → many ≤ 12 → (ring = true → 3 ≤ many) → held.Pairwise (· < ·) → (∀ k ∈ held, 0 ≤ k ∧ k < many) → held.length ≤ many → Q (.ref p) H'
abbrev nSmall : List Str := ["_law_row", "_law_colours", "_law_is_ring", "_law_most", "_law_many", "_law_held_here", "_law_k"]
theorem scSmall : FnScope nSmall ["_law_row"] (defScope sSmall) := ⟨rfl, rfl, rfl, by decide +kernel, rfl, by decide +kernel, by decide +kernel⟩
theorem ok_small {f : Addr} {fd : FuncData} (F : Fun K "_law_small" "_law_small" sSmall f fd) (T : Txt K mg CC CT) (DT : GFn P w K mg base 1 "_law_taken" ["_law_row", "_law_many"] (spTaken K)) (DP : GFn P w K mg base 2 "_law_pick" ["_law_row", "_law_things"] (spPick K)) : FnOk P w K mg base CX0 3 f fd ["_law_row"] (spSmall K) := by
  obtain ⟨gt, gtd, GT, mT, kT, bT⟩ := DT
  obtain ⟨gp, gpd, GP, mP, kP, bP⟩ := DP
  refine F.ok scSmall (fun vs H Q E h => ?_) (fun cdv A outer s H vs Q E hr h => ?_)
  · obtain ⟨r, a, ns, rfl, _⟩ := h
    rfl
  · obtain ⟨r, a, ns, rfl, hR, q⟩ := h
    have hr1 : Room 1 _ := hr.mono (by decide)
    have nd := scSmall.nd
    refine ⟨_, pss_cons (ps_set (i := 1) nd rfl (Or.inl rfl) (pe_op op_add pe_int (pe_call GT hr1 (by rfl) mT kT bT .nil pass0 (pa_cons (pv 0) (pa_cons pe_int pa_nil)))))
      (pss_cons (ps_set (i := 2) nd rfl (Or.inl rfl) (pe_cmpR op_eq (pe_call GT hr1 (by rfl) mT kT bT .nil pass0 (pa_cons (pv 0) (pa_cons pe_int pa_nil))) pe_int (nomark _)))
      (pss_cons (ps_set (i := 3) nd rfl (Or.inl rfl) (pe_ifExp (pt_cmpR op_lt (pv 1) pe_int (nomark _)) pe_int pe_int))
      (pss_cons (ps_set (i := 4) nd rfl (Or.inl rfl) (pe_ifExp (pt_val (pv 2)) (pe_op op_add pe_int (pe_call GT hr1 (by rfl) mT kT bT .nil pass0 (pa_cons (pv 0) (pa_cons (pe_op op_sub (pv 3) pe_int) pa_nil))))
        (pe_op op_add pe_int (pe_call GT hr1 (by rfl) mT kT bT .nil pass0 (pa_cons (pv 0) (pa_cons (pv 3) pa_nil))))))
      (pss_cons (ps_set (i := 5) nd rfl (Or.inl rfl) (pe_callTy call_tuple_of (by rfl) T.zTuple (by decide +kernel) (pa_cons
        (pe_lc (own := [("_law_k", 6)]) (g := gName 6) (tt := tTest (tOp rEq (tCall (spTaken K) [] E0 (tCons (tVar 0) (tCons (tCall (spPick K) [] E0 (tCons (tVar 0) (tCons (tLst (tCons (tC (.int 3)) (tCons (tC (.int 8)) (tCons (tC (.int 40)) tNil)))) tNil))) tNil))) (tC (.int 0)))) (te := tVar 6) rfl nd
          (pi_range1 (by rfl) T.zRange (pa_cons (pv 4) pa_nil)) (blkOk_by (own := [("_law_k", 6)]) (N := nSmall) (sc := defScope sSmall) (by decide +kernel)) (fun _ _ _ _ _ => pg_name (i := 6) nd rfl (Or.inl rfl))
          (fun _ _ _ _ _ => pts_one (pt_cmpR op_eq (pe_call GT hr1 (by rfl) mT kT bT .nil pass0 (pa_cons (pv 0) (pa_cons (pe_call GP hr (by rfl) mP kP bP .nil pass0 (pa_cons (pv 0) (pa_cons (pe_lst (pa_cons pe_int (pa_cons pe_int (pa_cons pe_int pa_nil)))) pa_nil))) pa_nil))) pe_int (nomark _)))
          (fun _ _ _ _ _ => pv 6)) pa_nil)))
      (pss_one (ps_ret (pe_tup (pa_cons (pe_tup (pa_cons (pv 4) (pa_cons (pv 5) (pa_cons (pv 2) pa_nil)))) (pa_cons (pv 1) pa_nil))))))))), ?_⟩
    refine ⟨_, rfl, r, a, ns, 3, rfl, hR, by decide, by decide, fun H1 v1 s1 hR1 a1 b1 => ⟨_, _, rfl, rfl, ?_⟩⟩
    obtain ⟨colours, ec, c1, c3⟩ : ∃ colours : Nat, 1 + v1 = (colours : Int) ∧ 1 ≤ colours ∧ colours ≤ 3 := ⟨(1 + v1).toNat, by omega, by omega, by omega⟩
    dsimp only
    rw [ec]
    refine ⟨_, rfl, r, a, ns, 2, rfl, hR1, by decide, by decide, fun H2 v2 s2 hR2 a2 b2 => ⟨rfl, ?_⟩⟩
    have s12 := s1.trans s2
    generalize decide (V.int v2 = V.int 0) = ring
    dsimp only [tSeq, tAsg, gName]
    refine val_mid (Mid := fun v H' => ∃ mo : Int, v = .int mo ∧ H' = H2 ∧ (mo = 9 ∨ mo = 6)) (fun R k => ⟨_, rfl, _, _, rfl, rfl, _, rfl, ite2 (fun _ => k _ _ ⟨9, rfl, rfl, .inl rfl⟩) (fun _ => k _ _ ⟨6, rfl, rfl, .inr rfl⟩)⟩) ?_
    rintro v H' ⟨mo, rfl, rfl, hmo⟩
    refine val_mid (Mid := fun v H3 => ∃ many : Nat, v = .int many ∧ SameX r H H3 ∧ RowI K H3 r a ns ∧ 1 ≤ many ∧ many ≤ 12 ∧ (ring = true → 3 ≤ many)) (fun R k => ⟨_, rfl, ring, rfl, ?_⟩) ?_
    · cases ring with
      | true =>
        refine iteT ⟨_, rfl, _, rfl, _, _, rfl, rfl, r, a, ns, _, rfl, hR2, by omega, by omega, fun H3 v3 s3 hR3 a3 b3 => ⟨_, _, rfl, rfl, k _ _ ⟨(3 + v3).toNat, ?_, s12.trans s3, hR3, by omega, by omega, fun _ => by omega⟩⟩⟩
        rw [Int.toNat_of_nonneg (by omega)]
      | false =>
        refine iteF ⟨_, rfl, _, rfl, r, a, ns, _, rfl, hR2, by omega, by omega, fun H3 v3 s3 hR3 a3 b3 => ⟨_, _, rfl, rfl, k _ _ ⟨(1 + v3).toNat, ?_, s12.trans s3, hR3, by omega, by omega, fun z => by cases z⟩⟩⟩
        rw [Int.toNat_of_nonneg (by omega)]
    rintro v H3 ⟨many, rfl, s3, hR3, n1, n12, h3⟩
    refine ⟨_, rfl, _, rfl, (by omega), (by omega), fun D hD => lc_range (lo := 0) (n := ((many : Nat) : Int).toNat) (fun i H4 => ∃ held : List Int, SameX r H3 H4 ∧ RowI K H4 r a ns ∧ H4 D = some (.lst (held.map V.int)) ∧ held.Pairwise (· < ·) ∧ (∀ k ∈ held, 0 ≤ k ∧ k < i) ∧ held.length ≤ i)
      ⟨[], same_x (same_new hD) r, hR3.keep (same_new hD), upd_same, List.Pairwise.nil, fun _ h => (nomatch h), Nat.le_refl _⟩ (fun i H4 hi ⟨held, s4, hR4, hD4, srt, hld, hlen⟩ => ?_) (fun H4 ⟨held, s4, hR4, hD4, srt, hld, hlen⟩ => ?_)⟩
    · obtain ⟨xr, hxr⟩ := hR3.some
      have hDr : D ≠ r := (ne_of_none hxr hD).symm
      refine ⟨rfl, _, rfl, _, rfl, (by show 3 ≤ sizeLine; decide), fun l hl => ?_⟩
      have s5 := same_new (o := HO.lst [V.int 3, V.int 8, V.int 40]) hl
      obtain ⟨xr4, hxr4⟩ := hR4.some
      have hlr : l ≠ r := (ne_of_none hxr4 hl).symm
      refine ⟨r, a, l, ns, _, rfl, hR4.keep s5, upd_same, hlr, (by show 1 ≤ 3; decide), (by show 3 ≤ 100; decide), fun H5 v s6 hR5 hv => ?_⟩
      obtain ⟨m, rfl, m1, m2⟩ : ∃ m : Int, v = .int m ∧ 1 ≤ m ∧ m ≤ 100 := by
        simp only [List.mem_cons, List.not_mem_nil, or_false] at hv
        rcases hv with rfl | rfl | rfl
        · exact ⟨3, rfl, by decide, by decide⟩
        · exact ⟨8, rfl, by decide, by decide⟩
        · exact ⟨40, rfl, by decide, by decide⟩
      refine ⟨r, a, ns, m, rfl, hR5, m1, by omega, fun H6 v6 s7 hR6 a6 b6 => ⟨rfl, _, rfl, ?_⟩⟩
      have s46 : SameX r H4 H6 := ((same_x s5 r).trans s6).trans s7
      have s36 := s4.trans s46
      refine ite2 (fun hc => ?_) (fun hc => ?_)
      · rw [Int.zero_add]
        refine ⟨_, rfl, held.map V.int, s46 _ _ hDr hD4, small1000 (by rw [List.length_map]; omega), held ++ [(i : Int)], sameX_upd_new s36 hD, hR3.upd s36 hD hR6, by rw [upd_same, List.map_append]; rfl, ?_, fun k hk => ?_, by rw [List.length_append, List.length_singleton]; omega⟩
        · rw [List.pairwise_append]
          refine ⟨srt, by simp, fun x hx y hy => ?_⟩
          rw [List.mem_singleton] at hy
          have := hld x hx
          omega
        · rcases List.mem_append.mp hk with hk | hk
          · have := hld k hk; omega
          · rw [List.mem_singleton] at hk; omega
      · exact ⟨held, s36, hR6, s46 _ _ hDr hD4, srt, fun k hk => by have := hld k hk; omega, by omega⟩
    · rw [Int.toNat_natCast] at hld hlen
      refine ⟨D, _, rfl, .inl ⟨SqL.of hD4, fun h hh => ?_⟩⟩
      have s5 := same_new (o := HO.tup (held.map V.int)) hh
      refine ⟨_, rfl, _, rfl, _, rfl, (by show 3 ≤ sizeLine; decide), fun fr hfr => ?_⟩
      have s6 := same_new (o := HO.tup [V.int many, V.ref h, V.bl ring]) hfr
      refine ⟨_, rfl, (by show 2 ≤ sizeLine; decide), fun p hp => ?_⟩
      have s7 := same_new (o := HO.tup [V.ref fr, V.int colours]) hp
      have s57 := (s5.trans s6).trans s7
      exact q _ p fr h colours many held ring ((s3.trans s4).trans (same_x s57 r)) (hR4.keep s57) upd_same (s7 _ _ upd_same) ((s6.trans s7) _ _ upd_same) c1 c3 n1 n12 h3 srt hld hlen
/-! ### _law_wish -/
def spWish (K : PySem.W.Frag) : Sp := fun vs H Q _ => ∃ (r a : Addr) (ns : List Int) (many colours : Nat), vs = [.ref r, .int many, .int colours] ∧ RowI K H r a ns ∧ 1 ≤ colours ∧ colours ≤ 3 ∧ many ≤ 12 ∧ ∀ (H' : Hp) (p : Addr) (wish : List (Option Int)), SameX r H H' → RowI K H' r a ns →
  H' p = some (.tup (wish.map oV)) → wish.length = many → (∀ c, some c ∈ wish → 0 ≤ c ∧ c < colours) → Q (.ref p) H'
abbrev nWish : List Str := ["_law_row", "_law_many", "_law_colours", "_law_thin", "_law_base", "_law_k"]
theorem scWish : FnScope nWish ["_law_row", "_law_many", "_law_colours"] (defScope sWish) := ⟨rfl, rfl, rfl, by decide +kernel, rfl, by decide +kernel, by decide +kernel⟩
theorem ok_wish {f : Addr} {fd : FuncData} (F : Fun K "_law_wish" "_law_wish" sWish f fd) (T : Txt K mg CC CT) (DT : GFn P w K mg base 1 "_law_taken" ["_law_row", "_law_many"] (spTaken K)) (DP : GFn P w K mg base 2 "_law_pick" ["_law_row", "_law_things"] (spPick K)) : FnOk P w K mg base CX0 3 f fd ["_law_row", "_law_many", "_law_colours"] (spWish K) := by
  obtain ⟨gt, gtd, GT, mT, kT, bT⟩ := DT
  obtain ⟨gp, gpd, GP, mP, kP, bP⟩ := DP
  refine F.ok scWish (fun vs H Q E h => ?_) (fun cdv A outer s H vs Q E hr h => ?_)
  · obtain ⟨r, a, ns, many, colours, rfl, _⟩ := h
    rfl
  · obtain ⟨r, a, ns, many, colours, rfl, hR, c1, c3, n12, q⟩ := h
    have hr1 : Room 1 _ := hr.mono (by decide)
    have nd := scWish.nd
    refine ⟨_, pss_cons (ps_set (i := 3) nd rfl (Or.inr rfl) (pe_call GP hr (by rfl) mP kP bP .nil pass0 (pa_cons (pv 0) (pa_cons (pe_lst (pa_cons pe_int (pa_cons pe_int (pa_cons pe_int pa_nil)))) pa_nil))))
      (pss_cons (ps_set (i := 4) nd rfl (Or.inr rfl) (pe_call GT hr1 (by rfl) mT kT bT .nil pass0 (pa_cons (pv 0) (pa_cons (pv 2) pa_nil))))
      (pss_one (ps_ret (pe_callTy call_tuple_of (by rfl) T.zTuple (by decide +kernel) (pa_cons
        (pe_lc (own := [("_law_k", 5)]) (g := gName 5) (tt := tYes) (te := tIf (tTest (tOp rEq (tCall (spTaken K) [] E0 (tCons (tVar 0) (tCons (tVar 3) tNil))) (tC (.int 0))))
            (tCall (spPick K) [] E0 (tCons (tVar 0) (tCons (tLst (tCons (tVar 4) (tCons (tCall (spTaken K) [] E0 (tCons (tVar 0) (tCons (tVar 2) tNil))) tNil))) tNil))) (tC .non)) rfl nd
          (pi_range1 (by rfl) T.zRange (pa_cons (pv 1) pa_nil)) (blkOk_by (own := [("_law_k", 5)]) (N := nWish) (sc := defScope sWish) (by decide +kernel)) (fun _ _ _ _ _ => pg_name (i := 5) nd rfl (Or.inl rfl))
          (fun _ _ _ _ _ => pts_nil)
          (fun _ _ _ _ _ => pe_ifExp (pt_cmpR op_eq (pe_call GT hr1 (by rfl) mT kT bT .nil pass0 (pa_cons (pv 0) (pa_cons (pv 3) pa_nil))) pe_int (nomark _))
            (pe_call GP hr (by rfl) mP kP bP .nil pass0 (pa_cons (pv 0) (pa_cons (pe_lst (pa_cons (pv 4) (pa_cons (pe_call GT hr1 (by rfl) mT kT bT .nil pass0 (pa_cons (pv 0) (pa_cons (pv 2) pa_nil))) pa_nil))) pa_nil))) pe_non)) pa_nil))))), ?_⟩
    refine ⟨_, rfl, (by show 3 ≤ sizeLine; decide), fun l hl => ?_⟩
    have s1 := same_new (o := HO.lst [V.int 1, V.int 2, V.int 4]) hl
    obtain ⟨xr, hxr⟩ := hR.some
    refine ⟨r, a, l, ns, _, rfl, hR.keep s1, upd_same, (ne_of_none hxr hl).symm, (by show 1 ≤ 3; decide), (by show 3 ≤ 100; decide), fun H2 v s2 hR2 hv => ?_⟩
    obtain ⟨thin, rfl, t1, t2⟩ : ∃ m : Int, v = .int m ∧ 1 ≤ m ∧ m ≤ 100 := by
      simp only [List.mem_cons, List.not_mem_nil, or_false] at hv
      rcases hv with rfl | rfl | rfl
      · exact ⟨1, rfl, by decide, by decide⟩
      · exact ⟨2, rfl, by decide, by decide⟩
      · exact ⟨4, rfl, by decide, by decide⟩
    refine ⟨_, rfl, _, rfl, r, a, ns, _, rfl, hR2, by omega, by omega, fun H3 basev s3 hR3 b0 b1 => ?_⟩
    have s03 : SameX r H H3 := ((same_x s1 r).trans s2).trans s3
    refine ⟨_, rfl, _, rfl, (by omega), (by omega), fun D hD => lc_range (lo := 0) (n := ((many : Nat) : Int).toNat) (fun i H4 => ∃ wish : List (Option Int), SameX r H3 H4 ∧ RowI K H4 r a ns ∧ H4 D = some (.lst (wish.map oV)) ∧ wish.length = i ∧ (∀ c, some c ∈ wish → 0 ≤ c ∧ c < colours))
      ⟨[], same_x (same_new hD) r, hR3.keep (same_new hD), upd_same, rfl, fun _ h => (nomatch h)⟩ (fun i H4 hi ⟨wish, s4, hR4, hD4, hlen, hw⟩ => ?_) (fun H4 ⟨wish, s4, hR4, hD4, hlen, hw⟩ => ?_)⟩
    · obtain ⟨xr3, hxr3⟩ := hR3.some
      have hDr : D ≠ r := (ne_of_none hxr3 hD).symm
      refine ⟨rfl, _, rfl, _, rfl, r, a, ns, thin, rfl, hR4, t1, by omega, fun H5 v5 s5 hR5 a5 b5 => ⟨rfl, _, rfl, ?_⟩⟩
      refine ite2 (fun hc => ?_) (fun hc => ?_)
      · refine ⟨_, rfl, _, rfl, _, rfl, _, rfl, r, a, ns, _, rfl, hR5, by omega, by omega, fun H6 v6 s6 hR6 a6 b6 => ⟨(by show 2 ≤ sizeLine; decide), fun l hl => ?_⟩⟩
        have s7 := same_new (o := HO.lst [V.int basev, V.int v6]) hl
        obtain ⟨xr6, hxr6⟩ := hR6.some
        refine ⟨r, a, l, ns, _, rfl, hR6.keep s7, upd_same, (ne_of_none hxr6 hl).symm, (by show 1 ≤ 2; decide), (by show 2 ≤ 100; decide), fun H7 v s8 hR7 hv => ?_⟩
        obtain ⟨c, rfl, d1, d2⟩ : ∃ c : Int, v = .int c ∧ 0 ≤ c ∧ c < colours := by
          simp only [List.mem_cons, List.not_mem_nil, or_false] at hv
          rcases hv with rfl | rfl
          · exact ⟨_, rfl, b0, b1⟩
          · exact ⟨_, rfl, a6, b6⟩
        have s47 : SameX r H4 H7 := ((s5.trans s6).trans (same_x s7 r)).trans s8
        have s37 := s4.trans s47
        refine ⟨wish.map oV, s47 _ _ hDr hD4, small1000 (by rw [List.length_map]; omega), wish ++ [some c], sameX_upd_new s37 hD, hR3.upd s37 hD hR7, by rw [upd_same, List.map_append]; rfl, by rw [List.length_append, hlen]; rfl, fun c' hc' => ?_⟩
        rcases List.mem_append.mp hc' with h | h
        · exact hw c' h
        · cases List.mem_singleton.mp h
          exact ⟨d1, d2⟩
      · have s35 := s4.trans s5
        refine ⟨wish.map oV, s5 _ _ hDr hD4, small1000 (by rw [List.length_map]; omega), wish ++ [none], sameX_upd_new s35 hD, hR3.upd s35 hD hR5, by rw [upd_same, List.map_append]; rfl, by rw [List.length_append, hlen]; rfl, fun c' hc' => ?_⟩
        rcases List.mem_append.mp hc' with h | h
        · exact hw c' h
        · cases List.mem_singleton.mp h
    · rw [Int.toNat_natCast] at hlen
      refine ⟨D, _, rfl, .inl ⟨SqL.of hD4, fun p hp => ?_⟩⟩
      have s5 := same_new (o := HO.tup (wish.map oV)) hp
      exact q _ p wish ((s03.trans s4).trans (same_x s5 r)) (hR4.keep s5) upd_same hlen hw
end
end Flk

set_option Elab.async false
set_option linter.all false
set_option maxRecDepth 100000
set_option maxHeartbeats 8000000
/-! The walk, 18: _law_held, _law_fits_wish, _law_repaints. -/
namespace Flk
open PySem PySem.Spec PyProof.Rows L2
theorem tt_mid {tt : TT} {σ : L2.St} {H : Hp} {Q : Bool → Hp → Prop} {Mid : Bool → Hp → Prop} (h : ∀ R : Bool → Hp → Prop, (∀ b H', Mid b H' → R b H') → tt σ H R) (k : ∀ b H', Mid b H' → Q b H') : tt σ H Q := h Q k
def natsI (ks : List Nat) : List Int := ks.map Int.ofNat
theorem natsI_snoc (ks : List Nat) (k : Nat) : natsI (ks ++ [k]) = natsI ks ++ [(k : Int)] := by
  unfold natsI
  rw [List.map_append]
  rfl
def heldB (n : Nat) (held : List Int) (ring : Bool) (k : Nat) : Bool := decide ((k : Int) ∈ held ∨ (ring = false ∧ ((k : Int) = 0 ∨ (k : Int) = (n : Int) - 1)))
theorem filter_snoc (p : Nat → Bool) (i : Nat) : (List.range (i + 1)).filter p = (List.range i).filter p ++ (if p i = true then [i] else []) := by
  rw [List.range_succ, List.filter_append]
  congr 1
  rw [List.filter_cons, List.filter_nil]
theorem filter_len (p : Nat → Bool) (i : Nat) : ((List.range i).filter p).length ≤ i := by
  have := List.length_filter_le p (List.range i)
  rw [List.length_range] at this
  exact this
theorem natsI_len (ks : List Nat) : (natsI ks).length = ks.length := List.length_map _
section
variable {P : Program} {w : World} {K : PySem.W.Frag} {mg : Str → Option Value} {base : Heap} {CC CT : Addr}
/-! ### _law_held -/
def spHeld : Sp := fun vs H Q _ => ∃ (t c h : Addr) (cells held : List Int) (ring : Bool), vs = [.ref t] ∧ LineIn H t c h cells held ring ∧ cells.length ≤ 20 ∧ ∀ H' l, Same H H' → H' l = some (.lst ((natsI ((List.range cells.length).filter (heldB cells.length held ring))).map V.int)) → Q (.ref l) H'
abbrev nHeld : List Str := ["_law_line", "_law_many", "_law_k"]
theorem scHeld : FnScope nHeld ["_law_line"] (defScope sHeld) := ⟨rfl, rfl, rfl, by decide +kernel, rfl, by decide +kernel, by decide +kernel⟩
theorem ok_held {f : Addr} {fd : FuncData} (F : Fun K "_law_held" "_law_held" sHeld f fd) (T : Txt K mg CC CT) : FnOk P w K mg base CX0 1 f fd ["_law_line"] spHeld := by
  refine F.ok scHeld (fun vs H Q E h => ?_) (fun cdv A outer s H vs Q E hr h => ?_)
  · obtain ⟨t, c, h, cells, held, ring, rfl, _⟩ := h
    rfl
  · obtain ⟨t, c, h, cells, held, ring, rfl, L, hl, q⟩ := h
    have nd := scHeld.nd
    refine ⟨_, pss_cons (ps_set (i := 1) nd rfl (Or.inr rfl) (pe_callB call_len_seq (by rfl) T.zLen PySem.boot_len (pa_cons (pe_ix ix_tup (pv 0) pe_int (fun _ _ => rfl)) pa_nil)))
      (pss_one (ps_ret (pe_lc (own := [("_law_k", 2)]) (g := gName 2)
        (tt := tOr (tTest (tOp (rIn K false) (tVar 2) (tOp (rIxT K) (tVar 0) (tC (.int 1))))) (tAnd (tNot (tB (tOp (rIxT K) (tVar 0) (tC (.int 2))))) (tTest (tOp (rIn K false) (tVar 2) (tLst (tCons (tC (.int 0)) (tCons (tOp (rI0 fun i j => .int (i - j)) (tVar 1) (tC (.int 1))) tNil))))))) (te := tVar 2) rfl nd
        (pi_range1 (by rfl) T.zRange (pa_cons (pv 1) pa_nil)) (blkOk_by (own := [("_law_k", 2)]) (N := nHeld) (sc := defScope sHeld) (by decide +kernel)) (fun _ _ _ _ _ => pg_name (i := 2) nd rfl (Or.inl rfl))
        (fun _ _ _ _ _ => pts_one (PW.pt (pw_or (pt_cmpR op_in_seq (pv 2) (pe_ix ix_tup (pv 0) pe_int (fun _ _ => rfl)) (by rfl))
          (pw_or1 (PW.pt (pw_and (pt_not (pt_val (pe_ix ix_tup (pv 0) pe_int (fun _ _ => rfl)))) (pw_and1 (pt_cmpR op_in_seq (pv 2) (pe_lst (pa_cons pe_int (pa_cons (pe_op op_sub (pv 1) pe_int) pa_nil))) (by rfl)))))))))
        (fun _ _ _ _ _ => pv 2)))), ?_⟩
    refine ⟨_, rfl, t, _, _, _, rfl, rfl, SqT.of L.at_, rfl, c, _, rfl, .inr (SqT.of L.cs), ?_⟩
    dsimp only
    rw [List.length_map]
    refine ⟨_, rfl, _, rfl, (by omega), (by omega), fun D hD => lc_range (lo := 0) (n := ((cells.length : Nat) : Int).toNat) (fun i H1 => Same H H1 ∧ H1 D = some (.lst ((natsI ((List.range i).filter (heldB cells.length held ring))).map V.int))) ⟨same_new hD, upd_same⟩ (fun i H1 hi ⟨s1, hD1⟩ => ?_) (fun H1 ⟨s1, hD1⟩ => ?_)⟩
    · rw [Int.zero_add]
      refine ⟨rfl, ?_⟩
      refine tt_mid (Mid := fun b H2 => b = heldB cells.length held ring i ∧ Same H1 H2) (fun R k => ?_) ?_
      · refine ⟨_, rfl, _, rfl, t, _, _, _, rfl, rfl, SqT.of (s1 _ _ L.at_), rfl, h, _, rfl, .inr (SqT.of (s1 _ _ L.hs)), rfl, flat_ints held, _, rfl, ?_⟩
        show if (inV (.int (i : Int)) (held.map V.int)) = true then R true H1 else _
        rw [inV_ints]
        by_cases c1 : (i : Int) ∈ held
        · refine iteY (decide_eq_true c1) (k _ _ ⟨?_, Same.refl _⟩)
          exact (decide_eq_true (.inl c1)).symm
        · refine iteE (decide_eq_false c1) ?_
          refine ⟨_, rfl, t, _, _, _, rfl, rfl, SqT.of (s1 _ _ L.at_), rfl, ring, rfl, ?_⟩
          cases ring with
          | true =>
            refine iteF (k _ _ ⟨?_, Same.refl _⟩)
            refine (decide_eq_false ?_).symm
            rintro (z | ⟨z, _⟩)
            · exact c1 z
            · cases z
          | false =>
            refine iteT ⟨_, rfl, _, rfl, _, _, rfl, rfl, (by show 2 ≤ sizeLine; decide), fun l hl' => ?_⟩
            refine ⟨l, _, rfl, .inl (SqL.of upd_same), rfl, rfl, _, rfl, k _ _ ⟨?_, same_new hl'⟩⟩
            show inV (.int (i : Int)) ([(0 : Int), (cells.length : Int) - 1].map V.int) = _
            rw [inV_ints]
            unfold heldB
            rw [decide_eq_decide]
            simp [c1]
      · rintro b H2 ⟨rfl, s2⟩
        have hn := filter_snoc (heldB cells.length held ring) i
        cases e : heldB cells.length held ring i with
        | true =>
          rw [e, if_pos rfl] at hn
          refine iteT ⟨_, rfl, _, s2 _ _ hD1, small1000 ?_, same_upd (s1.trans s2) hD, ?_⟩
          · rw [List.length_map, natsI_len]
            have := filter_len (heldB cells.length held ring) i
            omega
          · rw [upd_same, hn, natsI_snoc, List.map_append]
            rfl
        | false =>
          rw [e, if_neg (by decide), List.append_nil] at hn
          exact iteF ⟨s1.trans s2, by rw [hn]; exact s2 _ _ hD1⟩
    · rw [Int.toNat_natCast] at hD1
      exact q H1 D s1 hD1
/-! ### _law_fits_wish -/
def suitsW (wish : List (Option Int)) (k : Nat) (c : Int) : Bool := match wish.getD k none with
  | none => true
  | some w => c == w
def spFits : Sp := fun vs H Q _ => ∃ (v : V) (wa : Addr) (wish : List (Option Int)), vs = [v, .ref wa] ∧ H wa = some (.tup (wish.map oV)) ∧ wish.length ≤ 12 ∧
  ((v = .non ∧ ∀ H', Same H H' → Q (.bl false) H') ∨ ∃ (b : Addr) (cs : List Int), v = .ref b ∧ H b = some (.tup (cs.map V.int)) ∧ cs.length = wish.length ∧ ∀ H', Same H H' → Q (.bl (decide (∀ k, k < wish.length → suitsW wish k (cOf cs k) = true))) H')
abbrev nFits : List Str := ["_law_cells", "_law_wish_here", "_law_k"]
theorem scFits : FnScope nFits ["_law_cells", "_law_wish_here"] (defScope sFits) := ⟨rfl, rfl, rfl, by decide +kernel, rfl, by decide +kernel, by decide +kernel⟩
theorem eqv_nil (ks : List Nat) : PyData.eqv (.list ((natsI ks).map PyData.int)) (.list []) = ks.isEmpty := by
  cases ks with
  | nil => rfl
  | cons k ks => rfl
theorem ok_fits {f : Addr} {fd : FuncData} (F : Fun K "_law_fits_wish" "_law_fits_wish" sFits f fd) (T : Txt K mg CC CT) : FnOk P w K mg base CX0 1 f fd ["_law_cells", "_law_wish_here"] spFits := by
  refine F.ok scFits (fun vs H Q E h => ?_) (fun cdv A outer s H vs Q E hr h => ?_)
  · obtain ⟨v, wa, wish, rfl, _⟩ := h
    rfl
  · obtain ⟨v, wa, wish, rfl, hw, hl, h⟩ := h
    have hu := hr.units
    have nd := scFits.nd
    refine ⟨_, pss_one (ps_ret (pe_and (pe_cmpR op_notN (pv 0) pe_non (nomark _)) (pe_one (pe_cmpR (op_eqD hu) (pe_lc (own := [("_law_k", 2)]) (g := gName 2)
        (tt := tAnd (tTest (tOp (fun x y H Q => y = .non ∧ Q (.bl (!decide (x = .non))) H) (tOp (rIxT K) (tVar 1) (tVar 2)) (tC .non))) (tTest (tOp rNe (tOp (rIxT K) (tVar 1) (tVar 2)) (tOp (rIxT K) (tVar 0) (tVar 2))))) (te := tVar 2) rfl nd
        (pi_range1 (by rfl) T.zRange (pa_cons (pe_callB call_len_seq (by rfl) T.zLen PySem.boot_len (pa_cons (pv 1) pa_nil)) pa_nil)) (blkOk_by (own := [("_law_k", 2)]) (N := nFits) (sc := defScope sFits) (by decide +kernel)) (fun _ _ _ _ _ => pg_name (i := 2) nd rfl (Or.inl rfl))
        (fun _ _ _ _ _ => pts_one (PW.pt (pw_and (pt_cmpR op_notN (pe_ix ix_tup (pv 1) (pv 2) (fun _ _ => rfl)) pe_non (nomark _)) (pw_and1 (pt_cmpR op_ne (pe_ix ix_tup (pv 1) (pv 2) (fun _ _ => rfl)) (pe_ix ix_tup (pv 0) (pv 2) (fun _ _ => rfl)) (nomark _))))))
        (fun _ _ _ _ _ => pv 2)) (pe_lst pa_nil) (nomark _))))), ?_⟩
    rcases h with ⟨rfl, q⟩ | ⟨b, cs, rfl, hb, hcl, q⟩
    · exact ⟨_, rfl, rfl, _, rfl, iteE rfl (q H (Same.refl _))⟩
    refine ⟨_, rfl, rfl, _, rfl, iteY rfl ?_⟩
    refine ⟨_, rfl, wa, _, rfl, .inr (SqT.of hw), _, rfl, (by omega), (by rw [List.length_map]; omega), ?_⟩
    rw [List.length_map]
    refine fun D hD => lc_range (lo := 0) (n := ((wish.length : Nat) : Int).toNat) (fun i H1 => Same H H1 ∧ H1 D = some (.lst ((natsI ((List.range i).filter fun k => !suitsW wish k (cOf cs k))).map V.int))) ⟨same_new hD, upd_same⟩ (fun i H1 hi ⟨s1, hD1⟩ => ?_) (fun H1 ⟨s1, hD1⟩ => ?_)
    · rw [Int.zero_add]
      have hil : i < wish.length := by omega
      obtain ⟨o, ho⟩ : ∃ o, wish[i]? = some o := ⟨_, List.getElem?_eq_getElem hil⟩
      obtain ⟨x, hx⟩ : ∃ x, cs[i]? = some x := ⟨_, List.getElem?_eq_getElem (by omega)⟩
      have ho' : (wish.map oV)[i]? = some (oV o) := by rw [List.getElem?_map, ho]; rfl
      have hx' : (cs.map V.int)[i]? = some (V.int x) := by rw [List.getElem?_map, hx]; rfl
      have ex : cOf cs i = x := by unfold cOf; rw [List.getD_eq_getElem?_getD, hx]; rfl
      have eo : wish.getD i none = o := by rw [List.getD_eq_getElem?_getD, ho]; rfl
      refine ⟨rfl, ?_⟩
      refine tt_mid (Mid := fun b H2 => b = (!suitsW wish i (cOf cs i)) ∧ H2 = H1) (fun R k => ?_) ?_
      · refine ⟨_, rfl, _, rfl, wa, _, _, _, rfl, rfl, SqT.of (s1 _ _ hw), atI_nat ho', rfl, _, rfl, ?_⟩
        unfold suitsW at k
        rw [eo, ex] at k
        cases o with
        | none => exact iteE rfl (k _ _ ⟨rfl, rfl⟩)
        | some z =>
          refine iteY rfl ⟨_, rfl, _, rfl, wa, _, _, _, rfl, rfl, SqT.of (s1 _ _ hw), atI_nat ho', _, rfl, _, rfl, b, _, _, _, rfl, rfl, SqT.of (s1 _ _ hb), atI_nat hx', rfl, _, rfl, k _ _ ⟨?_, rfl⟩⟩
          show (!decide (V.int z = V.int x)) = !(x == z)
          rw [dec_int, Bool.beq_comm]
      · rintro b' H2 ⟨rfl, rfl⟩
        have hn := filter_snoc (fun k => !suitsW wish k (cOf cs k)) i
        cases e : suitsW wish i (cOf cs i) with
        | false =>
          rw [e, Bool.not_false, if_pos rfl] at hn
          refine iteT ⟨_, rfl, _, hD1, small1000 ?_, same_upd s1 hD, ?_⟩
          · rw [List.length_map, natsI_len]
            have := filter_len (fun k => !suitsW wish k (cOf cs k)) i
            omega
          · rw [upd_same, hn, natsI_snoc, List.map_append]
            rfl
        | true =>
          rw [e, Bool.not_true, if_neg (by decide), List.append_nil] at hn
          exact iteF ⟨s1, by rw [hn]; exact hD1⟩
    · rw [Int.toNat_natCast] at hD1
      refine ⟨Nat.zero_le _, fun z hz => ⟨_, _, dp_ints (same_new hz _ _ hD1), dp_nil upd_same, shaped_ints _, rfl, ?_⟩⟩
      rw [eqv_nil]
      have e : ((List.range wish.length).filter fun k => !suitsW wish k (cOf cs k)).isEmpty = decide (∀ k, k < wish.length → suitsW wish k (cOf cs k) = true) := by
        rw [Bool.eq_iff_iff, decide_eq_true_eq, List.isEmpty_iff, List.filter_eq_nil_iff]
        simp
      rw [e]
      exact q _ (s1.trans (same_new hz))
end
end Flk

set_option Elab.async false
set_option linter.all false
set_option maxRecDepth 100000
set_option maxHeartbeats 8000000
/-! The walk, 19: _law_repaints. -/
namespace Flk
open PySem PySem.Spec PyProof.Rows L2
def reps (colours : Nat) (cells : List Int) : Nat → List (List Int)
  | 0 => [[]]
  | i + 1 => (reps colours cells i).flatMap fun cs => (domL colours (cOf cells i)).map fun x => cs ++ [x]
theorem cOf_app {cs : List Int} {x : Int} {k : Nat} (h : k < cs.length) : cOf (cs ++ [x]) k = cOf cs k := by
  show (cs ++ [x]).getD k 0 = cs.getD k 0
  rw [List.getD_eq_getElem?_getD, List.getD_eq_getElem?_getD, List.getElem?_append_left h]
theorem cOf_snoc (cs : List Int) (x : Int) : cOf (cs ++ [x]) cs.length = x := by
  show (cs ++ [x]).getD cs.length 0 = x
  rw [List.getD_eq_getElem?_getD, List.getElem?_append_right (Nat.le_refl _), Nat.sub_self]
  rfl
theorem mem_reps {colours : Nat} {cells : List Int} : ∀ {i : Nat} {cs : List Int}, cs ∈ reps colours cells i ↔ cs.length = i ∧ ∀ k, k < i → cOf cs k ∈ domL colours (cOf cells k)
  | 0, cs => by
    show cs ∈ [[]] ↔ _
    rw [List.mem_singleton]
    constructor
    · rintro rfl; exact ⟨rfl, fun k hk => absurd hk (Nat.not_lt_zero _)⟩
    · rintro ⟨h, _⟩; exact List.eq_nil_of_length_eq_zero h
  | i + 1, cs => by
    show cs ∈ (reps colours cells i).flatMap _ ↔ _
    rw [List.mem_flatMap]
    constructor
    · rintro ⟨c0, h0, h1⟩
      obtain ⟨x, hx, rfl⟩ := List.mem_map.mp h1
      obtain ⟨hl, hd⟩ := mem_reps.mp h0
      refine ⟨by rw [List.length_append, hl]; rfl, fun k hk => ?_⟩
      by_cases e : k < i
      · rw [cOf_app (by omega)]
        exact hd k e
      · have : k = i := by omega
        subst this
        rw [← hl, cOf_snoc, hl]
        exact hx
    · rintro ⟨hl, hd⟩
      have hne : cs ≠ [] := fun e => by rw [e] at hl; cases hl
      have ec := List.dropLast_concat_getLast hne
      have hdl : cs.dropLast.length = i := by rw [List.length_dropLast]; omega
      refine ⟨cs.dropLast, mem_reps.mpr ⟨hdl, fun k hk => ?_⟩, List.mem_map.mpr ⟨cs.getLast hne, ?_, ec⟩⟩
      · have := hd k (by omega)
        rw [← ec, cOf_app (by omega)] at this
        exact this
      · have := hd i (by omega)
        rw [← ec] at this
        have e2 : cOf (cs.dropLast ++ [cs.getLast hne]) i = cs.getLast hne := by
          have := cOf_snoc cs.dropLast (cs.getLast hne)
          rw [hdl] at this
          exact this
        rw [e2] at this
        exact this
theorem len_flat {α β : Type} {f : α → List β} {m : Nat} : ∀ {l : List α}, (∀ x ∈ l, (f x).length ≤ m) → (l.flatMap f).length ≤ m * l.length
  | [], _ => Nat.zero_le _
  | a :: l, h => by
    rw [List.flatMap_cons, List.length_append, List.length_cons, Nat.mul_succ]
    have h1 := h a List.mem_cons_self
    have h2 := len_flat (f := f) (m := m) (l := l) fun x hx => h x (List.mem_cons_of_mem _ hx)
    omega
theorem len_reps {colours : Nat} {cells : List Int} (c3 : colours ≤ 3) (hc : ∀ c ∈ cells, 0 ≤ c ∧ c < 3) : ∀ i, (reps colours cells i).length ≤ 3 ^ i
  | 0 => Nat.le_refl _
  | i + 1 => by
    have h1 := len_reps c3 hc i
    have h2 := len_flat (f := fun cs => (domL colours (cOf cells i)).map fun x => cs ++ [x]) (m := 3) (l := reps colours cells i) fun cs _ => by
      rw [List.length_map]; exact len_domL c3 (cOf_rng hc i).2
    show ((reps colours cells i).flatMap _).length ≤ 3 ^ (i + 1)
    rw [Nat.pow_succ]
    omega
def TupI (H : Hp) (v : V) (cs : List Int) : Prop := ∃ b, v = .ref b ∧ H b = some (.tup (cs.map V.int))
theorem TupI.keep {H H' : Hp} {v : V} {cs : List Int} (t : TupI H v cs) (s : Same H H') : TupI H' v cs := by
  obtain ⟨b, e, h⟩ := t
  exact ⟨b, e, s _ _ h⟩
theorem TupI.keepT {H H' : Hp} {v : V} {cs : List Int} (t : TupI H v cs) (s : SameT H H') : TupI H' v cs := by
  obtain ⟨b, e, h⟩ := t
  exact ⟨b, e, s _ _ h⟩
section
variable {P : Program} {w : World} {K : PySem.W.Frag} {mg : Str → Option Value} {base : Heap} {CC CT : Addr}
def spRepaints : Sp := fun vs H Q _ => ∃ (t c h : Addr) (cells held : List Int) (ring : Bool) (colours : Nat), vs = [.ref t, .int colours] ∧ LineIn H t c h cells held ring ∧ cells.length ≤ 6 ∧ colours ≤ 3 ∧ (∀ c ∈ cells, 0 ≤ c ∧ c < 3) ∧
  ∀ H' l xs, Same H H' → H' l = some (.lst xs) → Paired (TupI H') xs (reps colours cells cells.length) → Q (.ref l) H'
abbrev nRepaints : List Str := ["_law_line", "_law_colours", "_law_found", "_law_own", "_law_more", "_law_one", "_law_x"]
theorem scRepaints : FnScope nRepaints ["_law_line", "_law_colours"] (defScope sRepaints) := ⟨rfl, rfl, rfl, by decide +kernel, rfl, by decide +kernel, by decide +kernel⟩
theorem ok_repaints {f : Addr} {fd : FuncData} (F : Fun K "_law_repaints" "_law_repaints" sRepaints f fd) (T : Txt K mg CC CT) : FnOk P w K mg base CX0 1 f fd ["_law_line", "_law_colours"] spRepaints := by
  refine F.ok scRepaints (fun vs H Q E h => ?_) (fun cdv A outer s H vs Q E hr h => ?_)
  · obtain ⟨t, c, h, cells, held, ring, colours, rfl, _⟩ := h
    rfl
  · obtain ⟨t, c, h, cells, held, ring, colours, rfl, L, l6, c3, hcell, q⟩ := h
    have nd := scRepaints.nd
    refine ⟨_, pss_cons (ps_set (i := 2) nd rfl (Or.inl rfl) (pe_lst (pa_cons (pe_tup pa_nil) pa_nil)))
      (pss_cons (ps_for PassesOwn.never rfl (pi_tup (pe_ix ix_tup (pv 0) pe_int (fun _ _ => rfl))) (pg_name (i := 3) nd rfl (Or.inl rfl))
        (pss_cons (ps_set (i := 4) nd rfl (Or.inl rfl) (pe_lst pa_nil))
        (pss_cons (ps_for PassesOwn.never rfl (pi_list (pv 2)) (pg_name (i := 5) nd rfl (Or.inr rfl))
          (pss_one (ps_set (i := 4) nd rfl (Or.inl rfl) (pe_op op_cat (pv 4) (pe_lc (own := [("_law_x", 6)]) (g := gName 6) (tt := tYes) (te := tOp (rCatA K) (tVar 5) (tTup (tCons (tVar 6) tNil))) rfl nd
            (pi_list (pe_callB (cr_sortedSet rfl) (by rfl) T.zSorted (by decide +kernel) (pa_cons (pe_callTy (cr_setOfI rfl) (by rfl) T.zSet (by decide +kernel) (pa_cons (pe_op op_cat (pe_listRg rfl (by rfl) T.zList (prg_1 (by rfl) T.zRange (pv 1))) (pe_lst (pa_cons (pv 3) pa_nil))) pa_nil)) pa_nil)))
            (blkOk_by (own := [("_law_x", 6)]) (N := nRepaints) (sc := defScope sRepaints) (by decide +kernel)) (fun _ _ _ _ _ => pg_name (i := 6) nd rfl (Or.inl rfl)) (fun _ _ _ _ _ => pts_nil)
            (fun _ _ _ _ _ => pe_op op_catA (pv 5) (pe_tup (pa_cons (pv 6) pa_nil))))))))
        (pss_one (ps_set (i := 2) nd rfl (Or.inl rfl) (pv 4))))))
      (pss_one (ps_ret (pv 2)))), ?_⟩
    refine ⟨Nat.zero_le _, fun b0 hb0 => ⟨(by show 1 ≤ sizeLine; decide), fun l0 hl0 => ?_⟩⟩
    have s0 := (same_new (o := HO.tup []) hb0).trans (same_new (o := HO.lst [V.ref b0]) hl0)
    have hb0' : (upd (upd H b0 (HO.tup [])) l0 (HO.lst [V.ref b0])) b0 = some (.tup []) := same_new hl0 _ _ upd_same
    refine ⟨_, rfl, t, _, _, _, rfl, rfl, SqT.of (s0 _ _ L.at_), rfl, c, rfl, ⟨_, SqT.of (s0 _ _ L.cs)⟩, for_tup (K := K) (a := c) (xs := cells.map V.int) (fun i σ H1 => ∃ (l : Addr) (xs : List V) (y3 y4 y5 y6 : Option V), σ = [some (.ref t), some (.int colours), some (.ref l), y3, y4, y5, y6] ∧ Same H H1 ∧ H1 l = some (.lst xs) ∧
        Paired (TupI H1) xs (reps colours cells i))
      ⟨l0, [V.ref b0], _, _, _, _, rfl, s0, upd_same, .cons ⟨b0, rfl, hb0'⟩ .nil⟩ (fun i σ H1 _ ⟨_, _, _, _, _, _, _, s1, _⟩ => SqT.of (s1 _ _ L.cs)) ?_ ?_⟩
    · rintro i ov σ H1 hi ⟨l, xs, y3, y4, y5, y6, rfl, s1, hl1, hp1⟩
      obtain ⟨own, hown, rfl⟩ := ints_get hi
      have hil : i < cells.length := (List.getElem?_eq_some_iff.mp hown).1
      have own0 := hcell own (List.mem_of_getElem? hown)
      have ecOf : cOf cells i = own := by
        unfold cOf
        rw [List.getD_eq_getElem?_getD, hown]
        rfl
      have hxl : xs.length ≤ 729 := by
        rw [Paired.length hp1]
        have h1 := len_reps (colours := colours) c3 hcell i
        have h2 : 3 ^ i ≤ 3 ^ 6 := Nat.pow_le_pow_right (by decide) (by omega)
        have h3 : 3 ^ 6 = 729 := by decide
        omega
      refine ⟨Nat.zero_le _, fun m0 hm0 => ?_⟩
      have sm := same_new (o := HO.lst []) hm0
      have s1m := s1.trans sm
      refine ⟨_, rfl, l, rfl, ⟨_, SqL.of (sm _ _ hl1)⟩, for_list (K := K) (a := l) (xs := xs) (fun j σ H2 => ∃ (m : Addr) (ys : List V) (y5 y6 : Option V), σ = [some (.ref t), some (.int colours), some (.ref l), some (.int own), some (.ref m), y5, y6] ∧ Same H1 H2 ∧ H2 m = some (.lst ys) ∧
          Paired (TupI H2) ys (((reps colours cells i).take j).flatMap fun cs => (domL colours own).map fun x => cs ++ [x]) ∧ ys.length ≤ 3 * j)
        ⟨m0, [], _, _, rfl, sm, upd_same, .nil, Nat.zero_le _⟩ (fun j σ H2 _ ⟨_, _, _, _, _, s2, _⟩ => SqL.of (s2 _ _ hl1)) ?_ ?_⟩
      · rintro j x σ H2 hj ⟨m, ys, y5, y6, rfl, s2, hm2, hpy, hyl⟩
        obtain ⟨cs, hcs, bo, rfl, hbo⟩ := paired_get hp1 hj
        have hj729 : j < 729 := by
          have := (List.getElem?_eq_some_iff.mp hj).1
          omega
        have hlcs : cs.length = i := (mem_reps.mp (List.mem_of_getElem? hcs)).1
        refine ⟨_, rfl, _, rfl, _, rfl, RgOk.of_le (by decide) (by omega) (by decide) (by omega), fun lr hlr => ?_⟩
        have s3 := same_new (o := HO.lst (rgV 0 colours)) hlr
        refine ⟨_, rfl, (by show 1 ≤ sizeLine; decide), fun lo hlo => ?_⟩
        have s4 := same_new (o := HO.lst [V.int own]) hlo
        have hrg : rgV 0 (colours : Int) = (rangeI colours).map V.int := by
          unfold rgV rangeI
          rw [List.map_map, Int.sub_zero, Int.toNat_natCast]
          refine List.map_congr_left fun k _ => ?_
          show V.int (0 + (k : Int)) = V.int (k : Int)
          rw [Int.zero_add]
        have hrl : (rangeI colours).length = colours := by unfold rangeI; rw [List.length_map, List.length_range]
        refine ⟨lr, lo, _, _, rfl, rfl, s4 _ _ upd_same, upd_same, (by rw [hrg, List.length_map, hrl]; exact line1000 (by show colours + 1 ≤ 1000000; omega)), fun lc hlc => ?_⟩
        have s5 := same_new (o := HO.lst (rgV 0 (colours : Int) ++ [V.int own])) hlc
        refine ⟨lc, rangeI colours ++ [own], rfl, SqL.of (by rw [upd_same, hrg, List.map_append]; rfl), (by rw [List.length_append, hrl]; show colours + 1 ≤ 1000; omega), fun p c' hp hc' => ?_⟩
        have s6 := same_new (o := SetO w p (fun j => decide (j ∈ rangeI colours ++ [own])) c') hp
        rw [List.length_append, hrl] at hc'
        refine ⟨p, _, c', rfl, upd_same, (by have : [own].length = 1 := rfl; omega), fun ns y hs hmm hlen hy => ?_⟩
        have s7 := same_new (o := HO.lst (ns.map V.int)) hy
        have ens : ns = domL colours own := sorted_ext hs (srt_domL _ _) fun k => by
          rw [hmm, decide_eq_true_eq, List.mem_append, mem_rangeI, List.mem_singleton, mem_domL own0.1]
        subst ens
        have s27 := (((s3.trans s4).trans s5).trans s6).trans s7
        have hyy : (upd (upd (upd (upd (upd H2 lr (HO.lst (rgV 0 colours))) lo (HO.lst [V.int own])) lc (HO.lst (rgV 0 (colours : Int) ++ [V.int own]))) p (SetO w p (fun j => decide (j ∈ rangeI colours ++ [own])) c')) y (HO.lst ((domL colours own).map V.int))) y = some (.lst ((domL colours own).map V.int)) := upd_same
        have hd3 : (domL colours own).length ≤ 3 := len_domL c3 own0.2
        refine ⟨y, rfl, ⟨_, SqL.of hyy⟩, fun D hD => lc_list (K := K) (a := y) (xs := (domL colours own).map V.int) (fun k H8 => ∃ zs : List V, Same H2 H8 ∧ H8 y = some (.lst ((domL colours own).map V.int)) ∧ H8 D = some (.lst zs) ∧ Paired (TupI H8) zs (((domL colours own).take k).map fun x => cs ++ [x]))
          ⟨[], s27.trans (same_new hD), same_new hD _ _ hyy, upd_same, .nil⟩ (fun k H8 _ ⟨_, _, hy8, _⟩ => SqL.of hy8) ?_ ?_⟩
        · rintro k x H8 hk ⟨zs, s8, hy8, hD8, hpz⟩
          obtain ⟨z, hz, rfl⟩ := ints_get hk
          have hkl : k < 3 := by
            have := (List.getElem?_eq_some_iff.mp hz).1
            omega
          refine ⟨rfl, _, rfl, _, rfl, (by show 1 ≤ sizeLine; decide), fun b hb => ?_⟩
          have s9 := same_new (o := HO.tup [V.int z]) hb
          refine cata_of ((s2.trans (s8.trans s9)) _ _ hbo) upd_same (by rw [List.length_map, hlcs]; exact line1000 (by show i + 1 ≤ 1000000; omega)) fun c2 H9 s10 hc2 => ?_
          have s89 := s9.trans s10
          have hzl : zs.length ≤ 3 := by
            rw [Paired.length hpz, List.length_map, List.length_take]; omega
          have hyD : y ≠ D := ne_of_none hyy hD
          have sT : SameT H9 (upd H9 D (.lst (zs ++ [V.ref c2]))) := sameT_upd (s89 _ _ hD8) fun xs z => by cases z
          refine ⟨zs, s89 _ _ hD8, small1000 (by omega), zs ++ [V.ref c2], same_upd (s8.trans s89) (s27.free hD), by rw [upd_ne hyD]; exact s89 _ _ hy8, upd_same, ?_⟩
          rw [List.take_succ, hz, List.map_append]
          refine Paired.snoc (Paired.mapP hpz fun _ _ q => (q.keep s89).keepT sT) ⟨c2, rfl, sT _ _ ?_⟩
          rw [hc2, List.map_append]
          rfl
        · rintro H8 ⟨zs, s8, hy8, hD8, hpz⟩
          rw [List.length_map, List.take_length] at hpz
          have hzl : zs.length ≤ 3 := by
            rw [Paired.length hpz, List.length_map]; omega
          refine ⟨m, D, _, _, rfl, rfl, s8 _ _ hm2, hD8, line1000 (by omega), fun p2 hp2 => ?_⟩
          have s9 := same_new (o := HO.lst (ys ++ zs)) hp2
          refine ⟨p2, ys ++ zs, _, _, rfl, (s2.trans s8).trans s9, upd_same, ?_, by rw [List.length_append]; omega⟩
          rw [List.take_succ, hcs, List.flatMap_append]
          refine paired_append (Paired.mapP hpy fun _ _ q => (q.keep s8).keep s9) ?_
          have : ((some cs).toList.flatMap fun cs => (domL colours own).map fun x => cs ++ [x]) = (domL colours own).map fun x => cs ++ [x] := by simp
          rw [this]
          exact Paired.mapP hpz fun _ _ q => q.keep s9
      · rintro σ H2 ⟨m, ys, y5, y6, rfl, s2, hm2, hpy, hyl⟩
        rw [Paired.length hp1, List.take_length] at hpy
        refine ⟨_, rfl, m, ys, _, _, _, _, rfl, s1.trans s2, hm2, ?_⟩
        show Paired (TupI H2) ys ((reps colours cells i).flatMap fun cs => (domL colours (cOf cells i)).map fun x => cs ++ [x])
        rw [ecOf]
        exact hpy
    · rintro σ H1 ⟨l, xs, y3, y4, y5, y6, rfl, s1, hl1, hp1⟩
      rw [List.length_map] at hp1
      exact ⟨_, rfl, q H1 l xs s1 hl1 hp1⟩
end
end Flk

set_option Elab.async false
set_option linter.all false
set_option maxRecDepth 100000
set_option maxHeartbeats 8000000
/-! The walk, 20: _law_ready, _law_step. -/
namespace Flk
open PySem PySem.Spec PyProof.Rows L2
theorem at_cell {cells : List Int} {k : Nat} (h : k < cells.length) : (cells.map V.int)[k]? = some (V.int (cOf cells k)) := by
  rw [List.getElem?_map, List.getElem?_eq_getElem h]
  show some (V.int cells[k]) = some (V.int (cells.getD k 0))
  rw [List.getD_eq_getElem?_getD, List.getElem?_eq_getElem h]
  rfl
theorem at_neg {cells : List Int} {i : Int} {k : Nat} (h : k < cells.length) (hi : i < 0) (e : i + cells.length = k) : atI (cells.map V.int) i = some (V.int (cOf cells k)) := by
  have e2 : ixN (cells.map V.int).length i = some k := by
    unfold ixN
    rw [List.length_map, if_neg (by omega), if_pos (by omega), e]
    rfl
  unfold atI
  rw [e2]
  exact at_cell h
theorem at_prv {cells : List Int} {k : Nat} (h : k < cells.length) : atI (cells.map V.int) ((k : Int) - 1) = some (V.int (cOf cells (prv cells.length k))) := by
  by_cases e : k = 0
  · subst e
    rw [prv_zero (by omega)]
    exact at_neg (by omega) (by decide) (by omega)
  · rw [prv_pos h (by omega)]
    have e2 : (k : Int) - 1 = ((k - 1 : Nat) : Int) := by omega
    rw [e2]
    exact atI_nat (at_cell (by omega))
theorem at_nxt {cells : List Int} {k : Nat} (h : k < cells.length) : atI (cells.map V.int) ((k : Int) + 1 - (cells.length : Int)) = some (V.int (cOf cells (nxt cells.length k))) := by
  by_cases e : k + 1 = cells.length
  · rw [nxt_last e]
    have e2 : (k : Int) + 1 - (cells.length : Int) = ((0 : Nat) : Int) := by omega
    rw [e2]
    exact atI_nat (at_cell (by omega))
  · rw [nxt_lt (by omega)]
    exact at_neg (by omega) (by omega) (by omega)
theorem mem_natsI {p : Nat → Bool} {n k : Nat} (h : k < n) : decide ((k : Int) ∈ natsI ((List.range n).filter p)) = p k := by
  unfold natsI
  rw [Bool.eq_iff_iff, decide_eq_true_eq, List.mem_map]
  constructor
  · rintro ⟨j, hj, e⟩
    have : j = k := by
      have : (j : Int) = (k : Int) := e
      omega
    subst this
    exact (List.mem_filter.mp hj).2
  · intro hp
    exact ⟨k, List.mem_filter.mpr ⟨List.mem_range.mpr h, hp⟩, rfl⟩
section
variable {P : Program} {w : World} {K : PySem.W.Frag} {mg : Str → Option Value} {base : Heap} {CC CT : Addr}
def spReady : Sp := fun vs H Q _ => ∃ (t c h : Addr) (cells held : List Int) (ring : Bool), vs = [.ref t] ∧ LineIn H t c h cells held ring ∧ cells.length ≤ 20 ∧
  ∀ H' l, Same H H' → H' l = some (.lst ((natsI (readyL cells.length (heldB cells.length held ring) cells)).map V.int)) → Q (.ref l) H'
abbrev nReady : List Str := ["_law_line", "_law_cells", "_law_many", "_law_held_here", "_law_found", "_law_k", "_law_left", "_law_right"]
theorem scReady : FnScope nReady ["_law_line"] (defScope sReady) := ⟨rfl, rfl, rfl, by decide +kernel, rfl, by decide +kernel, by decide +kernel⟩
theorem ok_ready {f : Addr} {fd : FuncData} (F : Fun K "_law_ready" "_law_ready" sReady f fd) (T : Txt K mg CC CT) (DH : GFn P w K mg base 1 "_law_held" ["_law_line"] spHeld) : FnOk P w K mg base CX0 2 f fd ["_law_line"] spReady := by
  obtain ⟨gh, ghd, GH, mH, kH, bH⟩ := DH
  refine F.ok scReady (fun vs H Q E h => ?_) (fun cdv A outer s H vs Q E hr h => ?_)
  · obtain ⟨t, c, h, cells, held, ring, rfl, _⟩ := h
    rfl
  · obtain ⟨t, c, h, cells, held, ring, rfl, L, l20, q⟩ := h
    have nd := scReady.nd
    refine ⟨_, pss_cons (ps_asg (pe_tup (pa_cons (pe_ix ix_tup (pv 0) pe_int (fun _ _ => rfl)) (pa_cons (pe_callB call_len_seq (by rfl) T.zLen PySem.boot_len (pa_cons (pe_ix ix_tup (pv 0) pe_int (fun _ _ => rfl)) pa_nil))
        (pa_cons (pe_call GH hr (by rfl) mH kH bH .nil pass0 (pa_cons (pv 0) pa_nil)) (pa_cons (pe_lst pa_nil) pa_nil)))))
        (pg_tup (by rfl) (pgs_cons (pg_name (i := 1) nd rfl (Or.inl rfl)) (pgs_cons (pg_name (i := 2) nd rfl (Or.inl rfl)) (pgs_cons (pg_name (i := 3) nd rfl (Or.inl rfl)) (pgs_cons (pg_name (i := 4) nd rfl (Or.inl rfl)) pgs_nil))))))
      (pss_cons (ps_for PassesOwn.never rfl (pi_range1 (by rfl) T.zRange (pa_cons (pv 2) pa_nil)) (pg_name (i := 5) nd rfl (Or.inl rfl))
        (pss_cons (ps_par (i := 6) (j := 7) rfl nd rfl rfl (by decide) rfl rfl (pa_cons (pe_ix ix_tup (pv 1) (pe_op op_sub (pv 5) pe_int) (fun _ _ => rfl)) (pa_cons (pe_ix ix_tup (pv 1) (pe_op op_sub (pe_op op_add (pv 5) pe_int) (pv 2)) (fun _ _ => rfl)) pa_nil)) (by rfl))
        (pss_one (ps_if (PW.pt (pw_and (pt_cmpR op_notIn_seq (pv 5) (pv 3) (by rfl)) (pw_and (pt_cmpR op_eq (pv 6) (pv 7) (nomark _)) (pw_and1 (pt_cmpR op_ne (pv 6) (pe_ix ix_tup (pv 1) (pv 5) (fun _ _ => rfl)) (nomark _))))))
          (pss_one (ps_expr (pe_bm PySem.F.plainAttrs_list PySem.F.slot_list_append PySem.F.type_list_append mt_append (pv 4) (pa_cons (pv 5) pa_nil)))) pss_nil))))
      (pss_one (ps_ret (pv 4)))), ?_⟩
    refine ⟨_, rfl, t, _, _, _, rfl, rfl, SqT.of L.at_, rfl, _, rfl, t, _, _, _, rfl, rfl, SqT.of L.at_, rfl, c, _, rfl, .inr (SqT.of L.cs), _, rfl, t, c, h, cells, held, ring, rfl, L, l20, fun H1 lh s1 hlh => ?_⟩
    refine ⟨Nat.zero_le _, fun l hl => ⟨(by show 4 ≤ sizeLine; decide), fun p hp => ?_⟩⟩
    have s2 := same_new (o := HO.lst []) hl
    rw [List.length_map]
    have s3 := same_new (o := HO.tup [V.ref c, V.int cells.length, V.ref lh, V.ref l]) hp
    have s13 := (s1.trans s2).trans s3
    refine ⟨p, _, rfl, SqT.of upd_same, rfl, _, _, rfl, _, _, rfl, _, _, rfl, _, _, rfl, rfl, ?_⟩
    have hl3 : (upd (upd H1 l (HO.lst [])) p (HO.tup [V.ref c, V.int cells.length, V.ref lh, V.ref l])) l = some (.lst []) := s3 _ _ upd_same
    have hlh3 := (s2.trans s3) _ _ hlh
    generalize upd (upd H1 l (HO.lst [])) p (HO.tup [V.ref c, V.int cells.length, V.ref lh, V.ref l]) = H3 at s13 hl3 hlh3 ⊢
    have hHl : H l = none := s1.free hl
    have hlhl : lh ≠ l := ne_of_none hlh hl
    refine ⟨_, rfl, _, rfl, (by omega), (by omega), ?_⟩
    refine for_range (lo := 0) (n := ((cells.length : Nat) : Int).toNat) (fun i σ H4 => ∃ (y5 y6 y7 : Option V), σ = [some (.ref t), some (.ref c), some (.int cells.length), some (.ref lh), some (.ref l), y5, y6, y7] ∧ Same H H4 ∧ H4 lh = some (.lst ((natsI ((List.range cells.length).filter (heldB cells.length held ring))).map V.int)) ∧
        H4 l = some (.lst ((natsI ((List.range i).filter (rdyC cells.length (heldB cells.length held ring) (cOf cells)))).map V.int)))
      ⟨_, _, _, rfl, s13, hlh3, hl3⟩ ?_ ?_
    · rintro i σ H4 hi ⟨y5, y6, y7, rfl, s4, hlh4, hl4⟩
      have hil : i < cells.length := by omega
      rw [Int.zero_add]
      have hc4 := s4 _ _ L.cs
      refine ⟨_, rfl, _, rfl, _, _, rfl, rfl, c, _, _, _, rfl, rfl, SqT.of hc4, at_prv hil, _, rfl, _, rfl, _, _, rfl, rfl, _, rfl, _, _, rfl, rfl, c, _, _, _, rfl, rfl, SqT.of hc4, at_nxt hil, _, _, rfl, ?_⟩
      have hn := filter_snoc (rdyC cells.length (heldB cells.length held ring) (cOf cells)) i
      have hlen := filter_len (rdyC cells.length (heldB cells.length held ring) (cOf cells)) i
      dsimp only
      refine st_if2 (bad := !heldB cells.length held ring i && ((cOf cells (prv cells.length i) == cOf cells (nxt cells.length i)) && (cOf cells (prv cells.length i) != cOf cells i))) (ans_and2 (fun R q' => ?_) (ans_and2 (fun R q' => ?_) (fun R q' => ?_))) (fun hb => ?_) (fun hb => ?_)
      · refine ⟨_, rfl, _, rfl, lh, _, rfl, .inl (SqL.of hlh4), rfl, flat_ints _, _, rfl, ?_⟩
        show R (!inV (.int (i : Int)) ((natsI ((List.range cells.length).filter (heldB cells.length held ring))).map V.int)) H4
        rw [inV_ints, mem_natsI hil]
        exact q'
      · refine ⟨_, rfl, _, rfl, rfl, _, rfl, ?_⟩
        show R (decide (V.int (cOf cells (prv cells.length i)) = V.int (cOf cells (nxt cells.length i)))) H4
        rw [dec_int]
        exact q'
      · refine ⟨_, rfl, _, rfl, _, rfl, c, _, _, _, rfl, rfl, SqT.of hc4, atI_nat (at_cell hil), rfl, _, rfl, ?_⟩
        show R (!decide (V.int (cOf cells (prv cells.length i)) = V.int (cOf cells i))) H4
        rw [dec_int]
        exact q'
      · have hp : rdyC cells.length (heldB cells.length held ring) (cOf cells) i = true := by
          unfold rdyC
          rw [Bool.and_assoc]
          exact hb
        rw [hp, if_pos rfl] at hn
        refine ⟨_, rfl, .inl ⟨rfl, _, SqL.of hl4⟩, _, rfl, l, _, _, rfl, rfl, hl4, small1000 (by rw [List.length_map, natsI_len]; omega), ?_⟩
        refine ⟨_, _, _, rfl, same_upd s4 hHl, by rw [upd_ne hlhl]; exact hlh4, ?_⟩
        rw [upd_same, hn, natsI_snoc, List.map_append]
        rfl
      · have hp : rdyC cells.length (heldB cells.length held ring) (cOf cells) i = false := by
          unfold rdyC
          rw [Bool.and_assoc]
          exact hb
        rw [hp, if_neg (by decide), List.append_nil] at hn
        exact ⟨_, _, _, rfl, s4, hlh4, by rw [hn]; exact hl4⟩
    · rintro σ H4 ⟨y5, y6, y7, rfl, s4, hlh4, hl4⟩
      rw [Int.toNat_natCast] at hl4
      exact ⟨_, rfl, q H4 l s4 hl4⟩
/-! ### _law_step -/
def spStep : Sp := fun vs H Q _ => ∃ (t c h : Addr) (cells held : List Int) (ring : Bool), vs = [.ref t] ∧ LineIn H t c h cells held ring ∧ cells.length ≤ 20 ∧
  ∀ H' t' c', Same H H' → LineIn H' t' c' h (stepL cells.length (heldB cells.length held ring) cells) held ring → Q (.ref t') H'
abbrev nStep : List Str := ["_law_line", "_law_ready_here", "_law_k"]
theorem scStep : FnScope nStep ["_law_line"] (defScope sStep) := ⟨rfl, rfl, rfl, by decide +kernel, rfl, by decide +kernel, by decide +kernel⟩
theorem ok_step {f : Addr} {fd : FuncData} (F : Fun K "_law_step" "_law_step" sStep f fd) (T : Txt K mg CC CT) (DR : GFn P w K mg base 2 "_law_ready" ["_law_line"] spReady) : FnOk P w K mg base CX0 3 f fd ["_law_line"] spStep := by
  obtain ⟨gr, grd, GR, mR, kR, bR⟩ := DR
  refine F.ok scStep (fun vs H Q E h => ?_) (fun cdv A outer s H vs Q E hr h => ?_)
  · obtain ⟨t, c, h, cells, held, ring, rfl, _⟩ := h
    rfl
  · obtain ⟨t, c, h, cells, held, ring, rfl, L, l20, q⟩ := h
    have nd := scStep.nd
    refine ⟨_, pss_cons (ps_set (i := 1) nd rfl (Or.inr rfl) (pe_call GR hr (by rfl) mR kR bR .nil pass0 (pa_cons (pv 0) pa_nil)))
      (pss_one (ps_ret (pe_tup (pa_cons (pe_callTy call_tuple_of (by rfl) T.zTuple (by decide +kernel) (pa_cons
        (pe_lc (own := [("_law_k", 2)]) (g := gName 2) (tt := tYes) (te := tIf (tTest (tOp (rIn K false) (tVar 2) (tVar 1))) (tOp (rIxT K) (tOp (rIxT K) (tVar 0) (tC (.int 0))) (tOp (rI0 fun i j => .int (i - j)) (tVar 2) (tC (.int 1)))) (tOp (rIxT K) (tOp (rIxT K) (tVar 0) (tC (.int 0))) (tVar 2))) rfl nd
          (pi_range1 (by rfl) T.zRange (pa_cons (pe_callB call_len_seq (by rfl) T.zLen PySem.boot_len (pa_cons (pe_ix ix_tup (pv 0) pe_int (fun _ _ => rfl)) pa_nil)) pa_nil)) (blkOk_by (own := [("_law_k", 2)]) (N := nStep) (sc := defScope sStep) (by decide +kernel)) (fun _ _ _ _ _ => pg_name (i := 2) nd rfl (Or.inl rfl))
          (fun _ _ _ _ _ => pts_nil)
          (fun _ _ _ _ _ => pe_ifExp (pt_cmpR op_in_seq (pv 2) (pv 1) (by rfl)) (pe_ix ix_tup (pe_ix ix_tup (pv 0) pe_int (fun _ _ => rfl)) (pe_op op_sub (pv 2) pe_int) (fun _ _ => rfl)) (pe_ix ix_tup (pe_ix ix_tup (pv 0) pe_int (fun _ _ => rfl)) (pv 2) (fun _ _ => rfl)))) pa_nil))
        (pa_cons (pe_ix ix_tup (pv 0) pe_int (fun _ _ => rfl)) (pa_cons (pe_ix ix_tup (pv 0) pe_int (fun _ _ => rfl)) pa_nil)))))), ?_⟩
    refine ⟨_, rfl, t, c, h, cells, held, ring, rfl, L, l20, fun H1 lr s1 hlr => ?_⟩
    have L1 := L.keep s1
    refine ⟨_, rfl, t, _, _, _, rfl, rfl, SqT.of L1.at_, rfl, c, _, rfl, .inr (SqT.of L1.cs), _, rfl, (by omega), (by rw [List.length_map]; omega), ?_⟩
    rw [List.length_map]
    refine fun D hD => lc_range (lo := 0) (n := ((cells.length : Nat) : Int).toNat) (fun i H2 => Same H1 H2 ∧ H2 D = some (.lst (((List.range i).map fun k => if rdyC cells.length (heldB cells.length held ring) (cOf cells) k = true then cOf cells (prv cells.length k) else cOf cells k).map V.int))) ⟨same_new hD, upd_same⟩ (fun i H2 hi ⟨s2, hD2⟩ => ?_) (fun H2 ⟨s2, hD2⟩ => ?_)
    · rw [Int.zero_add]
      have hil : i < cells.length := by omega
      have L2' := L1.keep s2
      refine ⟨rfl, _, rfl, _, rfl, lr, _, rfl, .inl (SqL.of (s2 _ _ hlr)), rfl, flat_ints _, _, rfl, ?_⟩
      show if (inV (.int (i : Int)) ((natsI (readyL cells.length (heldB cells.length held ring) cells)).map V.int)) = true then _ else _
      unfold readyL
      rw [inV_ints, mem_natsI hil]
      have hs : ((List.range (i + 1)).map fun k => if rdyC cells.length (heldB cells.length held ring) (cOf cells) k = true then cOf cells (prv cells.length k) else cOf cells k) = ((List.range i).map fun k => if rdyC cells.length (heldB cells.length held ring) (cOf cells) k = true then cOf cells (prv cells.length k) else cOf cells k) ++ [if rdyC cells.length (heldB cells.length held ring) (cOf cells) i = true then cOf cells (prv cells.length i) else cOf cells i] := by
        rw [List.range_succ, List.map_append]
        rfl
      cases e : rdyC cells.length (heldB cells.length held ring) (cOf cells) i with
      | true =>
        rw [e, if_pos rfl] at hs
        refine iteT ⟨_, rfl, t, _, _, _, rfl, rfl, SqT.of L2'.at_, rfl, _, rfl, _, _, rfl, rfl, c, _, _, _, rfl, rfl, SqT.of L2'.cs, at_prv hil, _, hD2, small1000 (by rw [List.length_map, List.length_map, List.length_range]; omega), same_upd s2 hD, ?_⟩
        rw [upd_same, hs, List.map_append]
        rfl
      | false =>
        rw [e, if_neg (by decide)] at hs
        refine iteF ⟨_, rfl, t, _, _, _, rfl, rfl, SqT.of L2'.at_, rfl, _, rfl, c, _, _, _, rfl, rfl, SqT.of L2'.cs, atI_nat (at_cell hil), _, hD2, small1000 (by rw [List.length_map, List.length_map, List.length_range]; omega), same_upd s2 hD, ?_⟩
        rw [upd_same, hs, List.map_append]
        rfl
    · rw [Int.toNat_natCast] at hD2
      refine ⟨D, _, rfl, .inl ⟨SqL.of hD2, fun c' hc' => ?_⟩⟩
      have s3 := same_new (o := HO.tup ((stepL cells.length (heldB cells.length held ring) cells).map V.int)) hc'
      have L3 := (L1.keep s2).keep s3
      refine ⟨_, rfl, t, _, _, _, rfl, rfl, SqT.of L3.at_, rfl, _, rfl, t, _, _, _, rfl, rfl, SqT.of L3.at_, rfl, (by show 3 ≤ sizeLine; decide), fun t' ht' => ?_⟩
      have s4 := same_new (o := HO.tup [V.ref c', V.ref h, V.bl ring]) ht'
      exact q _ t' c' (((s1.trans s2).trans s3).trans s4) ⟨upd_same, s4 _ _ upd_same, s4 _ _ L3.hs⟩
end
end Flk

set_option Elab.async false
set_option linter.all false
set_option maxRecDepth 100000
set_option maxHeartbeats 8000000
/-! The walk, 21: _law_run, _law_rest, _law_alike. -/
namespace Flk
open PySem PySem.Spec PyProof.Rows L2
theorem stepL_len (n : Nat) (held : Nat → Bool) (cs : List Int) : (stepL n held cs).length = n := by
  unfold stepL
  rw [List.length_map, List.length_range]
section
variable {P : Program} {w : World} {K : PySem.W.Frag} {mg : Str → Option Value} {base : Heap} {CC CT : Addr}
def spRun : Sp := fun vs H Q _ => ∃ (t c h : Addr) (cells held : List Int) (ring : Bool), vs = [.ref t] ∧ LineIn H t c h cells held ring ∧ cells.length ≤ 20 ∧
  (runL cells.length (heldB cells.length held ring) (cells.length + 2) cells = none → ∀ H', Same H H' → Q .non H') ∧
  (∀ r, runL cells.length (heldB cells.length held ring) (cells.length + 2) cells = some r → ∀ H' l xs t' c', Same H H' → H' l = some (.lst (xs ++ [.ref t'])) → LineIn H' t' c' h r held ring → Q (.ref l) H')
abbrev nRun : List Str := ["_law_line", "_law_found", "_law_turn"]
theorem scRun : FnScope nRun ["_law_line"] (defScope sRun) := ⟨rfl, rfl, rfl, by decide +kernel, rfl, by decide +kernel, by decide +kernel⟩
theorem ok_run {f : Addr} {fd : FuncData} (F : Fun K "_law_run" "_law_run" sRun f fd) (T : Txt K mg CC CT) (DR : GFn P w K mg base 2 "_law_ready" ["_law_line"] spReady) (DS : GFn P w K mg base 3 "_law_step" ["_law_line"] spStep) : FnOk P w K mg base CX0 4 f fd ["_law_line"] spRun := by
  obtain ⟨gr, grd, GR, mR, kR, bR⟩ := DR
  obtain ⟨gs, gsd, GS, mS, kS, bS⟩ := DS
  refine F.ok scRun (fun vs H Q E h => ?_) (fun cdv A outer s H vs Q E hr h => ?_)
  · obtain ⟨t, c, h, cells, held, ring, rfl, _⟩ := h
    rfl
  · obtain ⟨t, c, h, cells, held, ring, rfl, L, l20, qN, qS⟩ := h
    have hu := hr.units
    have hr2 : Room 2 _ := hr.mono (by decide)
    have nd := scRun.nd
    refine ⟨_, pss_cons (ps_set (i := 1) nd rfl (Or.inl rfl) (pe_lst (pa_cons (pv 0) pa_nil)))
      (pss_cons (ps_for PassesOwn.never rfl (pi_range1 (by rfl) T.zRange (pa_cons (pe_op op_add (pe_callB call_len_seq (by rfl) T.zLen PySem.boot_len (pa_cons (pe_ix ix_tup (pv 0) pe_int (fun _ _ => rfl)) pa_nil)) pe_int) pa_nil)) (pg_name (i := 2) nd rfl (Or.inl rfl))
        (pss_cons (ps_if (pt_cmpR (op_eqD hu) (pe_call GR hr2 (by rfl) mR kR bR .nil pass0 (pa_cons (pe_ix ix_list (pv 1) (pe_un un_neg pe_int) (fun _ _ => rfl)) pa_nil)) (pe_lst pa_nil) (nomark _)) (pss_one (ps_ret (pv 1))) pss_nil)
        (pss_one (ps_expr (pe_bm PySem.F.plainAttrs_list PySem.F.slot_list_append PySem.F.type_list_append mt_append (pv 1) (pa_cons (pe_call GS hr (by rfl) mS kS bS .nil pass0 (pa_cons (pe_ix ix_list (pv 1) (pe_un un_neg pe_int) (fun _ _ => rfl)) pa_nil)) pa_nil))))))
      (pss_one (ps_ret pe_non))), ?_⟩
    refine ⟨_, rfl, (by show 1 ≤ sizeLine; decide), fun l hl => ?_⟩
    have s0 := same_new (o := HO.lst [V.ref t]) hl
    refine ⟨_, rfl, t, _, _, _, rfl, rfl, SqT.of (s0 _ _ L.at_), rfl, c, _, rfl, .inr (SqT.of (s0 _ _ L.cs)), _, _, rfl, rfl, _, rfl, (by rw [List.length_map]; omega), (by rw [List.length_map]; omega), ?_⟩
    rw [List.length_map]
    refine for_range (lo := 0) (n := ((cells.length : Nat) : Int).toNat + 2) (fun i σ H1 => ∃ (xs : List V) (t' c' : Addr) (cs : List Int) (y2 : Option V), σ = [some (.ref t), some (.ref l), y2] ∧ Same H H1 ∧ H1 l = some (.lst (xs ++ [.ref t'])) ∧ LineIn H1 t' c' h cs held ring ∧ cs.length = cells.length ∧ xs.length = i ∧
        runL cells.length (heldB cells.length held ring) (cells.length + 2) cells = runL cells.length (heldB cells.length held ring) (cells.length + 2 - i) cs)
      ⟨[], t, c, cells, _, rfl, s0, upd_same, L.keep s0, rfl, rfl, rfl⟩ ?_ ?_
    · rintro i σ H1 hi ⟨xs, t', c', cs, y2, rfl, s1, hl1, L1, hcl, hxl, hrun⟩
      have hi' : i < cells.length + 2 := by omega
      have ef : cells.length + 2 - i = (cells.length + 2 - (i + 1)) + 1 := by omega
      rw [ef] at hrun
      refine ⟨_, rfl, _, rfl, l, _, _, _, rfl, rfl, SqL.of hl1, atI_last xs (V.ref t'), t', c', h, cs, held, ring, rfl, L1, by omega, fun H2 lr s2 hlr => ?_⟩
      refine ⟨Nat.zero_le _, fun z hz => ?_⟩
      have s3 := same_new (o := HO.lst []) hz
      have s13 := (s1.trans s2).trans s3
      have s23 := s2.trans s3
      refine ⟨_, _, dp_ints (s3 _ _ hlr), dp_nil upd_same, shaped_ints _, rfl, _, rfl, ?_⟩
      rw [eqv_nil]
      rw [hcl]
      cases hre : readyL cells.length (heldB cells.length held ring) cs with
      | nil =>
        have hr0 : runL cells.length (heldB cells.length held ring) (cells.length + 2) cells = some cs := by
          rw [hrun]
          show (if readyL cells.length (heldB cells.length held ring) cs = [] then some cs else _) = _
          rw [if_pos hre]
        exact iteT ⟨_, rfl, qS cs hr0 _ l xs t' c' s13 (s23 _ _ hl1) (L1.keep s23)⟩
      | cons k ks =>
        have hr0 : runL cells.length (heldB cells.length held ring) (cells.length + 2) cells = runL cells.length (heldB cells.length held ring) (cells.length + 2 - (i + 1)) (stepL cells.length (heldB cells.length held ring) cs) := by
          rw [hrun]
          show (if readyL cells.length (heldB cells.length held ring) cs = [] then some cs else _) = _
          rw [if_neg (by rw [hre]; exact fun z => by cases z)]
        refine iteF ?_
        have L3 := L1.keep s23
        refine ⟨_, rfl, .inl ⟨rfl, _, SqL.of (s23 _ _ hl1)⟩, _, rfl, _, rfl, l, _, _, _, rfl, rfl, SqL.of (s23 _ _ hl1), atI_last xs (V.ref t'), t', c', h, cs, held, ring, rfl, L3, by omega, fun H4 t2 c2 s4 L4 => ?_⟩
        have s24 := s23.trans s4
        refine ⟨l, _, _, rfl, rfl, s24 _ _ hl1, small1000 (by rw [List.length_append, List.length_singleton]; omega), ?_⟩
        have sT : ∀ b o, H4 b = some o → (∀ zs, o ≠ .lst zs) → (upd H4 l (.lst (xs ++ [V.ref t'] ++ [V.ref t2]))) b = some o := fun b o e n => by
          rw [upd_ne (ne_of e (s24 _ _ hl1) (n _))]; exact e
        rw [hcl] at L4
        exact ⟨xs ++ [V.ref t'], t2, c2, _, _, rfl, same_upd (s1.trans s24) hl, upd_same, ⟨sT _ _ L4.at_ (fun zs z => by cases z), sT _ _ L4.cs (fun zs z => by cases z), sT _ _ L4.hs (fun zs z => by cases z)⟩, stepL_len _ _ _, by rw [List.length_append, hxl]; rfl, hr0⟩
    · rintro σ H1 ⟨xs, t', c', cs, y2, rfl, s1, hl1, L1, hcl, hxl, hrun⟩
      refine qN ?_ H1 s1
      rw [hrun]
      have : cells.length + 2 - (((cells.length : Nat) : Int).toNat + 2) = 0 := by omega
      rw [this]
      rfl
/-! ### _law_rest -/
def spRest : Sp := fun vs H Q _ => ∃ (t c h : Addr) (cells held : List Int) (ring : Bool), vs = [.ref t] ∧ LineIn H t c h cells held ring ∧ cells.length ≤ 20 ∧
  (runL cells.length (heldB cells.length held ring) (cells.length + 2) cells = none → ∀ H', Same H H' → Q .non H') ∧
  (∀ r, runL cells.length (heldB cells.length held ring) (cells.length + 2) cells = some r → ∀ H' b, Same H H' → H' b = some (.tup (r.map V.int)) → Q (.ref b) H')
theorem scRest : FnScope ["_law_line", "_law_some"] ["_law_line"] (defScope sRest) := ⟨rfl, rfl, rfl, by decide +kernel, rfl, by decide +kernel, by decide +kernel⟩
theorem ok_rest {f : Addr} {fd : FuncData} (F : Fun K "_law_rest" "_law_rest" sRest f fd) (T : Txt K mg CC CT) (DR : GFn P w K mg base 4 "_law_run" ["_law_line"] spRun) : FnOk P w K mg base CX0 5 f fd ["_law_line"] spRest := by
  obtain ⟨gr, grd, GR, mR, kR, bR⟩ := DR
  refine F.ok scRest (fun vs H Q E h => ?_) (fun cdv A outer s H vs Q E hr h => ?_)
  · obtain ⟨t, c, h, cells, held, ring, rfl, _⟩ := h
    rfl
  · obtain ⟨t, c, h, cells, held, ring, rfl, L, l20, qN, qS⟩ := h
    have nd := scRest.nd
    refine ⟨_, pss_cons (ps_set (i := 1) nd rfl (Or.inl rfl) (pe_call GR hr (by rfl) mR kR bR .nil pass0 (pa_cons (pv 0) pa_nil)))
      (pss_one (ps_ret (pe_ifExp (pt_cmpR op_isN (pv 1) pe_non (nomark _)) pe_non (pe_ix ix_tup (pe_ix ix_list (pv 1) (pe_un un_neg pe_int) (fun _ _ => rfl)) pe_int (fun _ _ => rfl))))), ?_⟩
    refine ⟨_, rfl, t, c, h, cells, held, ring, rfl, L, l20, fun e H1 s1 => ?_, fun r e H1 l xs t' c' s1 hl L1 => ?_⟩
    · exact ⟨_, rfl, rfl, _, rfl, iteY rfl (qN e H1 s1)⟩
    · exact ⟨_, rfl, rfl, _, rfl, iteE rfl ⟨_, rfl, _, rfl, l, _, _, _, rfl, rfl, SqL.of hl, atI_last xs (V.ref t'), t', _, _, _, rfl, rfl, SqT.of L1.at_, rfl, qS r e H1 c' s1 L1.cs⟩⟩
end
end Flk

set_option Elab.async false
set_option linter.all false
set_option maxRecDepth 100000
set_option maxHeartbeats 8000000
/-! The walk, 22: _law_alike. -/
namespace Flk
open PySem PySem.Spec PyProof.Rows L2
def Alk0 (v w : V) : Prop := (v = .non ∧ w = .non) ∨ ∃ i : Int, v = .int i ∧ w = .int i
def Alk : Nat → Hp → V → V → Prop
  | 0, _, v, w => Alk0 v w
  | n + 1, H, v, w => Alk0 v w ∨ ∃ (a b : Addr) (xs ys : List V), v = .ref a ∧ w = .ref b ∧ H a = some (.tup xs) ∧ H b = some (.tup ys) ∧ xs.length ≤ 20 ∧ Paired (Alk n H) xs ys
theorem Alk.keep {H H' : Hp} (s : Same H H') : ∀ {n : Nat} {v w : V}, Alk n H v w → Alk n H' v w
  | 0, _, _, h => h
  | n + 1, _, _, h => by
    rcases h with h | ⟨a, b, xs, ys, e1, e2, h1, h2, hl, hp⟩
    · exact .inl h
    · exact .inr ⟨a, b, xs, ys, e1, e2, s _ _ h1, s _ _ h2, hl, Paired.mapP hp fun _ _ z => Alk.keep s z⟩
section
variable {P : Program} {w : World} {K : PySem.W.Frag} {mg : Str → Option Value} {base : Heap} {CC CT : Addr}
def spAlike (n : Nat) : Sp := fun vs H Q _ => ∃ x y : V, vs = [x, y] ∧ Alk n H x y ∧ ∀ H', Same H H' → Q (.bl true) H'
abbrev nAlike : List Str := ["_law_found", "_law_due", "_law_k"]
theorem scAlike : FnScope nAlike ["_law_found", "_law_due"] (defScope sAlike) := ⟨rfl, rfl, rfl, by decide +kernel, rfl, by decide +kernel, by decide +kernel⟩
theorem kit_tl {K : PySem.W.Frag} {t : String} {b : Bool} (h1 : kitB t "tuple" = some b) (h2 : kitB t "list" = some false) : PySem.W.kitAny K (.type t) [.type "tuple", .type "list"] = some b := by
  cases b with
  | true => exact kitAny_cons (kit_ty h1) (fun e => by cases e) (fun _ => rfl)
  | false => exact kitAny_cons (kit_ty h1) (fun _ => kitAny_cons (kit_ty h2) (fun _ => rfl) (fun e => by cases e)) (fun e => by cases e)
theorem ok_alike0 {f : Addr} {fd : FuncData} (F : Fun K "_law_alike" "_law_alike" sAlike f fd) (T : Txt K mg CC CT) : FnOk P w K mg base CX0 1 f fd ["_law_found", "_law_due"] (spAlike 0) := by
  refine F.ok scAlike (fun vs H Q E h => ?_) (fun cdv A outer s H vs Q E hr h => ?_)
  · obtain ⟨x, y, rfl, _⟩ := h
    rfl
  · obtain ⟨x, y, rfl, ha, q⟩ := h
    refine ⟨_, pss_cons (ps_if (pt_val (pe_callB call_isiT (by rfl) T.zInst (by decide +kernel) (pa_cons (pv 1) (pa_cons (pe_tup (pa_cons (pe_bltn (v := .ty "tuple") (by rfl) T.zTuple (by decide +kernel) rfl) (pa_cons (pe_bltn (v := .ty "list") (by rfl) T.zList (by decide +kernel) rfl) pa_nil))) pa_nil)))) pss_never pss_nil)
      (pss_cons (ps_if (PW.pt (pw_or (pt_cmpR op_isN (pv 1) pe_non (nomark _)) (pw_or1 (pt_val (pe_callB call_isi (by rfl) T.zInst (by decide +kernel) (pa_cons (pv 1) (pa_cons (pe_bltn (v := .ty "str") (by rfl) T.zStr (by decide +kernel) rfl) pa_nil)))))))
        (pss_one (ps_ret (pe_and (pe_cmpR op_eq (pv 0) (pv 1) (nomark _)) (pe_one (pe_cmpR op_eq (pe_callB call_isi (by rfl) T.zInst (by decide +kernel) (pa_cons (pv 0) (pa_cons (pe_bltn (v := .ty "str") (by rfl) T.zStr (by decide +kernel) rfl) pa_nil))) (pe_callB call_isi (by rfl) T.zInst (by decide +kernel) (pa_cons (pv 1) (pa_cons (pe_bltn (v := .ty "str") (by rfl) T.zStr (by decide +kernel) rfl) pa_nil))) (nomark _)))))) pss_nil)
      (pss_one (ps_ret (pe_and (pe_callB call_isi (by rfl) T.zInst (by decide +kernel) (pa_cons (pv 0) (pa_cons (pe_bltn (v := .ty "int") (by rfl) T.zInt (by decide +kernel) rfl) pa_nil))) (pe_and (pe_cmpR op_eq (pe_callB call_isi (by rfl) T.zInst (by decide +kernel) (pa_cons (pv 0) (pa_cons (pe_bltn (v := .ty "bool") (by rfl) T.zBool (by decide +kernel) rfl) pa_nil)))
        (pe_callB call_isi (by rfl) T.zInst (by decide +kernel) (pa_cons (pv 1) (pa_cons (pe_bltn (v := .ty "bool") (by rfl) T.zBool (by decide +kernel) rfl) pa_nil))) (nomark _)) (pe_one (pe_cmpR op_eq (pv 0) (pv 1) (nomark _)))))))), ?_⟩
    refine ⟨_, rfl, (by show 2 ≤ sizeLine; decide), fun p hp => ?_⟩
    have s1 := same_new (o := HO.tup [V.ty "tuple", V.ty "list"]) hp
    rcases ha with ⟨rfl, rfl⟩ | ⟨i, rfl, rfl⟩
    · refine ⟨_, p, _, _, _, _, rfl, upd_same, .cons (.ty _) (.cons (.ty _) .nil), .base .non, kit_tl (b := false) (by decide +kernel) (by decide +kernel), _, rfl, iteF ?_⟩
      refine ⟨_, rfl, rfl, _, rfl, iteY rfl ?_⟩
      refine iteT ⟨_, rfl, _, rfl, rfl, _, rfl, iteY rfl ?_⟩
      refine ⟨_, rfl, _, _, _, _, false, rfl, .ty _, .base .non, kit_ty (by decide +kernel), _, rfl, _, _, _, _, false, rfl, .ty _, .base .non, kit_ty (by decide +kernel), rfl, ?_⟩
      exact q _ s1
    · refine ⟨_, p, _, _, _, _, rfl, upd_same, .cons (.ty _) (.cons (.ty _) .nil), .base (.int i), kit_tl (b := false) (by decide +kernel) (by decide +kernel), _, rfl, iteF ?_⟩
      refine ⟨_, rfl, rfl, _, rfl, iteE rfl ?_⟩
      refine ⟨_, rfl, _, _, _, _, false, rfl, .ty _, .base (.int i), kit_ty (by decide +kernel), _, rfl, iteF ?_⟩
      refine ⟨_, rfl, _, _, _, _, true, rfl, .ty _, .base (.int i), kit_ty (by decide +kernel), _, rfl, iteY rfl ?_⟩
      refine ⟨_, rfl, _, _, _, _, false, rfl, .ty _, .base (.int i), kit_ty (by decide +kernel), _, rfl, _, _, _, _, false, rfl, .ty _, .base (.int i), kit_ty (by decide +kernel), rfl, _, rfl, iteY rfl ?_⟩
      refine ⟨_, rfl, _, rfl, rfl, ?_⟩
      have : decide (V.int i = V.int i) = true := decide_eq_true rfl
      rw [this]
      exact q _ s1
theorem ok_alike {n : Nat} {f : Addr} {fd : FuncData} (F : Fun K "_law_alike" "_law_alike" sAlike f fd) (T : Txt K mg CC CT) (D : GFn P w K mg base (n + 1) "_law_alike" ["_law_found", "_law_due"] (spAlike n)) : FnOk P w K mg base CX0 (n + 2) f fd ["_law_found", "_law_due"] (spAlike (n + 1)) := by
  obtain ⟨g, gd, GA, mA, kA, bA⟩ := D
  refine F.ok scAlike (fun vs H Q E h => ?_) (fun cdv A outer s H vs Q E hr h => ?_)
  · obtain ⟨x, y, rfl, _⟩ := h
    rfl
  · obtain ⟨x, y, rfl, ha, q⟩ := h
    have hu := hr.units
    have nd := scAlike.nd
    refine ⟨_, pss_cons (ps_if (pt_val (pe_callB call_isiT (by rfl) T.zInst (by decide +kernel) (pa_cons (pv 1) (pa_cons (pe_tup (pa_cons (pe_bltn (v := .ty "tuple") (by rfl) T.zTuple (by decide +kernel) rfl) (pa_cons (pe_bltn (v := .ty "list") (by rfl) T.zList (by decide +kernel) rfl) pa_nil))) pa_nil))))
        (pss_cons (ps_if (PW.pt (pw_or (pt_not (pt_val (pe_callB call_isiT (by rfl) T.zInst (by decide +kernel) (pa_cons (pv 0) (pa_cons (pe_tup (pa_cons (pe_bltn (v := .ty "tuple") (by rfl) T.zTuple (by decide +kernel) rfl) (pa_cons (pe_bltn (v := .ty "list") (by rfl) T.zList (by decide +kernel) rfl) pa_nil))) pa_nil)))))
          (pw_or1 (pt_cmpR op_ne (pe_callB call_isi (by rfl) T.zInst (by decide +kernel) (pa_cons (pv 0) (pa_cons (pe_bltn (v := .ty "list") (by rfl) T.zList (by decide +kernel) rfl) pa_nil))) (pe_callB call_isi (by rfl) T.zInst (by decide +kernel) (pa_cons (pv 1) (pa_cons (pe_bltn (v := .ty "list") (by rfl) T.zList (by decide +kernel) rfl) pa_nil))) (nomark _))))) (pss_one (ps_ret pe_bl)) pss_nil)
        (pss_cons (ps_if (pt_cmpR op_ne (pe_callB call_len_seq (by rfl) T.zLen PySem.boot_len (pa_cons (pv 0) pa_nil)) (pe_callB call_len_seq (by rfl) T.zLen PySem.boot_len (pa_cons (pv 1) pa_nil)) (nomark _)) (pss_one (ps_ret pe_bl)) pss_nil)
        (pss_one (ps_ret (pe_cmpR (op_eqD hu) (pe_lc (own := [("_law_k", 2)]) (g := gName 2) (tt := tNot (tB (tCall (spAlike n) [] E0 (tCons (tOp (rIxT K) (tVar 0) (tVar 2)) (tCons (tOp (rIxT K) (tVar 1) (tVar 2)) tNil))))) (te := tVar 2) rfl nd
          (pi_range1 (by rfl) T.zRange (pa_cons (pe_callB call_len_seq (by rfl) T.zLen PySem.boot_len (pa_cons (pv 1) pa_nil)) pa_nil)) (blkOk_by (own := [("_law_k", 2)]) (N := nAlike) (sc := defScope sAlike) (by decide +kernel)) (fun _ _ _ _ _ => pg_name (i := 2) nd rfl (Or.inl rfl))
          (fun _ _ _ _ _ => pts_one (pt_not (pt_val (pe_call GA hr (by rfl) mA kA bA .nil pass0 (pa_cons (pe_ix ix_tup (pv 0) (pv 2) (fun _ _ => rfl)) (pa_cons (pe_ix ix_tup (pv 1) (pv 2) (fun _ _ => rfl)) pa_nil))))))
          (fun _ _ _ _ _ => pv 2)) (pe_lst pa_nil) (nomark _)))))) pss_nil)
      (pss_cons (ps_if (PW.pt (pw_or (pt_cmpR op_isN (pv 1) pe_non (nomark _)) (pw_or1 (pt_val (pe_callB call_isi (by rfl) T.zInst (by decide +kernel) (pa_cons (pv 1) (pa_cons (pe_bltn (v := .ty "str") (by rfl) T.zStr (by decide +kernel) rfl) pa_nil)))))))
        (pss_one (ps_ret (pe_and (pe_cmpR op_eq (pv 0) (pv 1) (nomark _)) (pe_one (pe_cmpR op_eq (pe_callB call_isi (by rfl) T.zInst (by decide +kernel) (pa_cons (pv 0) (pa_cons (pe_bltn (v := .ty "str") (by rfl) T.zStr (by decide +kernel) rfl) pa_nil))) (pe_callB call_isi (by rfl) T.zInst (by decide +kernel) (pa_cons (pv 1) (pa_cons (pe_bltn (v := .ty "str") (by rfl) T.zStr (by decide +kernel) rfl) pa_nil))) (nomark _)))))) pss_nil)
      (pss_one (ps_ret (pe_and (pe_callB call_isi (by rfl) T.zInst (by decide +kernel) (pa_cons (pv 0) (pa_cons (pe_bltn (v := .ty "int") (by rfl) T.zInt (by decide +kernel) rfl) pa_nil))) (pe_and (pe_cmpR op_eq (pe_callB call_isi (by rfl) T.zInst (by decide +kernel) (pa_cons (pv 0) (pa_cons (pe_bltn (v := .ty "bool") (by rfl) T.zBool (by decide +kernel) rfl) pa_nil)))
        (pe_callB call_isi (by rfl) T.zInst (by decide +kernel) (pa_cons (pv 1) (pa_cons (pe_bltn (v := .ty "bool") (by rfl) T.zBool (by decide +kernel) rfl) pa_nil))) (nomark _)) (pe_one (pe_cmpR op_eq (pv 0) (pv 1) (nomark _)))))))), ?_⟩
    refine ⟨_, rfl, (by show 2 ≤ sizeLine; decide), fun p hp => ?_⟩
    have s1 := same_new (o := HO.tup [V.ty "tuple", V.ty "list"]) hp
    rcases ha with (⟨rfl, rfl⟩ | ⟨i, rfl, rfl⟩) | ⟨a, b, xs, ys, rfl, rfl, hx, hy, hl, hpr⟩
    · refine ⟨_, p, _, _, _, _, rfl, upd_same, .cons (.ty _) (.cons (.ty _) .nil), .base .non, kit_tl (b := false) (by decide +kernel) (by decide +kernel), _, rfl, iteF ?_⟩
      refine ⟨_, rfl, rfl, _, rfl, iteY rfl ?_⟩
      refine iteT ⟨_, rfl, _, rfl, rfl, _, rfl, iteY rfl ?_⟩
      refine ⟨_, rfl, _, _, _, _, false, rfl, .ty _, .base .non, kit_ty (by decide +kernel), _, rfl, _, _, _, _, false, rfl, .ty _, .base .non, kit_ty (by decide +kernel), rfl, ?_⟩
      exact q _ s1
    · refine ⟨_, p, _, _, _, _, rfl, upd_same, .cons (.ty _) (.cons (.ty _) .nil), .base (.int i), kit_tl (b := false) (by decide +kernel) (by decide +kernel), _, rfl, iteF ?_⟩
      refine ⟨_, rfl, rfl, _, rfl, iteE rfl ?_⟩
      refine ⟨_, rfl, _, _, _, _, false, rfl, .ty _, .base (.int i), kit_ty (by decide +kernel), _, rfl, iteF ?_⟩
      refine ⟨_, rfl, _, _, _, _, true, rfl, .ty _, .base (.int i), kit_ty (by decide +kernel), _, rfl, iteY rfl ?_⟩
      refine ⟨_, rfl, _, _, _, _, false, rfl, .ty _, .base (.int i), kit_ty (by decide +kernel), _, rfl, _, _, _, _, false, rfl, .ty _, .base (.int i), kit_ty (by decide +kernel), rfl, _, rfl, iteY rfl ?_⟩
      refine ⟨_, rfl, _, rfl, rfl, ?_⟩
      have : decide (V.int i = V.int i) = true := decide_eq_true rfl
      rw [this]
      exact q _ s1
    · refine ⟨_, p, _, _, _, _, rfl, upd_same, .cons (.ty _) (.cons (.ty _) .nil), .base (.tup (s1 _ _ hy)), kit_tl (b := true) (by decide +kernel) (by decide +kernel), _, rfl, iteT ?_⟩
      refine ⟨_, rfl, (by show 2 ≤ sizeLine; decide), fun p2 hp2 => ?_⟩
      have s2 := s1.trans (same_new (o := HO.tup [V.ty "tuple", V.ty "list"]) hp2)
      refine ⟨_, p2, _, _, _, _, rfl, upd_same, .cons (.ty _) (.cons (.ty _) .nil), .base (.tup (s2 _ _ hx)), kit_tl (b := true) (by decide +kernel) (by decide +kernel), _, rfl, iteF ?_⟩
      refine ⟨_, rfl, _, _, _, _, false, rfl, .ty _, .base (.tup (s2 _ _ hx)), kit_ty (by decide +kernel), _, rfl, _, _, _, _, false, rfl, .ty _, .base (.tup (s2 _ _ hy)), kit_ty (by decide +kernel), rfl, _, rfl, iteE rfl ?_⟩
      refine ⟨_, rfl, a, _, rfl, .inr (SqT.of (s2 _ _ hx)), _, rfl, b, _, rfl, .inr (SqT.of (s2 _ _ hy)), rfl, _, rfl, iteE ?_ ?_⟩
      · rw [Paired.length hpr]
        simp
      have hyl : ys.length ≤ 20 := by have := Paired.length hpr; omega
      refine ⟨_, rfl, b, _, rfl, .inr (SqT.of (s2 _ _ hy)), _, rfl, (by omega), (by omega), fun D hD => lc_range (lo := 0) (n := ((ys.length : Nat) : Int).toNat) (fun i H1 => Same H H1 ∧ H1 D = some (.lst [])) ⟨s2.trans (same_new hD), upd_same⟩ (fun i H1 hi ⟨t1, hD1⟩ => ?_) (fun H1 ⟨t1, hD1⟩ => ?_)⟩
      · rw [Int.zero_add]
        have hix : i < xs.length := by have := Paired.length hpr; omega
        obtain ⟨y, hyi, hxy⟩ := paired_get hpr (List.getElem?_eq_getElem hix)
        refine ⟨rfl, _, rfl, _, rfl, a, _, _, _, rfl, rfl, SqT.of (t1 _ _ hx), atI_nat (List.getElem?_eq_getElem hix), _, rfl, _, rfl, b, _, _, _, rfl, rfl, SqT.of (t1 _ _ hy), atI_nat hyi, _, _, rfl, hxy.keep t1, fun H2 t2 => ⟨true, rfl, ?_⟩⟩
        exact ⟨t1.trans t2, t2 _ _ hD1⟩
      · exact ⟨Nat.zero_le _, fun z hz => ⟨_, _, dp_nil (same_new hz _ _ hD1), dp_nil upd_same, rfl, rfl, q _ (t1.trans (same_new hz))⟩⟩
end
end Flk

set_option Elab.async false
set_option linter.all false
set_option maxRecDepth 100000
set_option maxHeartbeats 8000000
/-! The walk, 23: what the law's lists say, without a program. -/
namespace Flk
open PySem PySem.Spec PyProof.Rows L2
def accB (n : Nat) (held : List Int) (ring : Bool) (wish : List (Option Int)) (cs : List Int) : Bool := match runL n (heldB n held ring) (n + 2) cs with
  | none => false
  | some r => decide (∀ k, k < n → suitsW wish k (cOf r k) = true)
def accL (cells held : List Int) (ring : Bool) (wish : List (Option Int)) (colours : Nat) : List (List Int) := (reps colours cells cells.length).filter (accB cells.length held ring wish)
theorem spec_acc {cells held : List Int} {ring : Bool} {wish : List (Option Int)} {prices : List Int} {colours : Nat} (v : Val) :
    (mkT cells held ring wish prices colours).Spec v ↔ v ∈ (accL cells held ring wish colours).map fun cs => ((mkT cells held ring wish prices colours).costL cs, cs) := by
  unfold accL
  rw [List.mem_map]
  constructor
  · rintro ⟨cs, h1, h2, h3, r, h4, h5⟩
    refine ⟨cs, List.mem_filter.mpr ⟨mem_reps.mpr ⟨h1, h2⟩, ?_⟩, h3.symm⟩
    unfold accB
    have h4' : runL cells.length (heldB cells.length held ring) (cells.length + 2) cs = some r := h4
    rw [h4']
    exact decide_eq_true h5
  · rintro ⟨cs, hcs, e⟩
    obtain ⟨h1, h2⟩ := List.mem_filter.mp hcs
    obtain ⟨h3, h4⟩ := mem_reps.mp h1
    unfold accB at h2
    cases hr : runL cells.length (heldB cells.length held ring) (cells.length + 2) cs with
    | none => rw [hr] at h2; cases h2
    | some r =>
      rw [hr] at h2
      exact ⟨cs, h3, h4, e.symm, r, hr, of_decide_eq_true h2⟩
theorem sum_changed (p : Nat → Bool) (f : Nat → Int) : ∀ n, (((List.range n).filter p).map f).sum = ((List.range n).map fun k => if p k = true then f k else 0).sum
  | 0 => rfl
  | n + 1 => by
    rw [List.range_succ, List.filter_append, List.map_append, List.map_append, List.sum_append, List.sum_append, sum_changed p f n]
    congr 1
    rw [List.filter_cons, List.filter_nil]
    cases e : p n <;> simp [e]
def chgB (cells cs : List Int) (k : Nat) : Bool := cOf cs k != cOf cells k
theorem costL_eq {cells held : List Int} {ring : Bool} {wish : List (Option Int)} {prices : List Int} {colours : Nat} (cs : List Int) :
    (((List.range cells.length).filter (chgB cells cs)).map fun k => prices.getD k 0).sum = (mkT cells held ring wish prices colours).costL cs := by
  rw [sum_changed]
  show _ = ((List.range cells.length).map fun k => if cOf cs k = cOf cells k then 0 else prices.getD k 0).sum
  congr 1
  refine List.map_congr_left fun k _ => ?_
  unfold chgB
  by_cases e : cOf cs k = cOf cells k
  · rw [if_pos e, if_neg (by simp [e])]
  · rw [if_neg e, if_pos (by simp [e])]
theorem costL_one {cells held : List Int} {ring : Bool} {wish : List (Option Int)} {colours : Nat} (cs : List Int) :
    (((List.range cells.length).filter (chgB cells cs)).length : Int) = (mkT cells held ring wish (List.replicate cells.length 1) colours).costL cs := by
  rw [← costL_eq]
  have : ∀ k ∈ (List.range cells.length).filter (chgB cells cs), (List.replicate cells.length (1 : Int)).getD k 0 = 1 := fun k hk => by
    have hk' := List.mem_range.mp (List.mem_filter.mp hk).1
    rw [List.getD_eq_getElem?_getD, List.getElem?_replicate, if_pos hk']
    rfl
  rw [List.map_congr_left this]
  generalize (List.range cells.length).filter (chgB cells cs) = l
  induction l with
  | nil => rfl
  | cons a l ih => rw [List.map_cons, List.sum_cons, ← ih, List.length_cons]; omega
theorem eqv_nilD (ds : List PyData) : PyData.eqv (.list ds) (.list []) = ds.isEmpty := by
  cases ds <;> rfl
theorem lay_vals : ∀ us : List Val, PyData.canLayAll0 (us.map ValD) = true
  | [] => rfl
  | u :: us => by
    rw [List.map_cons, PyData.canLayAll0, lay_vals us]
    show (PyData.canLay0 (.tuple [.int u.1, .tuple (u.2.map PyData.int)]) && true) = true
    rw [PyData.canLay0, PyData.canLayAll0, PyData.canLayAll0, PyData.canLay0, PyData.canLay0, lay_ints]
    rfl
theorem depth_vals : ∀ us : List Val, PyData.depthAll (us.map ValD) ≤ 2
  | [] => Nat.zero_le _
  | u :: us => by
    rw [List.map_cons, PyData.depthAll, depth_val]
    have := depth_vals us
    omega
theorem shaped_vals (us : List Val) : SeqAt.shaped (.list (us.map ValD)) = true := by
  unfold SeqAt.shaped
  rw [PyData.canLay0, lay_vals, PyData.depth]
  have := depth_vals us
  simp
  omega
theorem dpAll_vals {K : PySem.W.Frag} {H : Hp} : ∀ {xs : List V} {us : List Val}, Paired (ValAt H) xs us → DpAll K H xs (us.map ValD)
  | _, _, .nil => .nil
  | _, _, .cons ⟨t, t2, e, h1, h2⟩ r => by
    subst e
    exact .cons (.tup (SqT.of h1) (.cons (.int _) (.cons (.tup (SqT.of h2) (dpAll_ints _)) .nil))) (dpAll_vals r)
theorem alk_ints (n : Nat) (H : Hp) : ∀ ns : List Int, Paired (Alk n H) (ns.map V.int) (ns.map V.int)
  | [] => .nil
  | i :: ns => .cons (by cases n <;> first | exact .inr ⟨i, rfl, rfl⟩ | exact .inl (.inr ⟨i, rfl, rfl⟩)) (alk_ints n H ns)
theorem alk_val {H : Hp} {v v' : V} {o : Option Val} (h : OptV H v o) (h' : OptV H v' o) (hl : ∀ u, o = some u → u.2.length ≤ 20) : Alk 2 H v v' := by
  cases o with
  | none =>
    have e1 : v = .non := h
    have e2 : v' = .non := h'
    exact .inl (.inl ⟨e1, e2⟩)
  | some u =>
    obtain ⟨t, t2, rfl, h1, h2⟩ := (show ValAt H v u from h)
    obtain ⟨t', t2', rfl, h1', h2'⟩ := (show ValAt H v' u from h')
    refine .inr ⟨t, t', _, _, rfl, rfl, h1, h1', (by show 2 ≤ 20; decide), .cons (.inl (.inr ⟨u.1, rfl, rfl⟩)) (.cons (.inr ⟨t2, t2', _, _, rfl, rfl, h2, h2', (by rw [List.length_map]; exact hl u rfl), alk_ints 0 H u.2⟩) .nil)⟩
end Flk

set_option Elab.async false
set_option linter.all false
set_option maxRecDepth 100000
set_option maxHeartbeats 16000000
/-! The walk, 23b: one turn of law's main loop, and its end, as readings. -/
namespace Flk
open PySem PySem.Spec PyProof.Rows L2
theorem runL_len {n : Nat} {held : Nat → Bool} : ∀ {f : Nat} {cs r : List Int}, cs.length = n → runL n held f cs = some r → r.length = n
  | 0, _, _, _, h => by cases h
  | f + 1, cs, r, hc, h => by
    have h' : (if readyL n held cs = [] then some cs else runL n held f (stepL n held cs)) = some r := h
    by_cases e : readyL n held cs = []
    · rw [if_pos e] at h'
      cases h'
      exact hc
    · rw [if_neg e] at h'
      exact runL_len (stepL_len _ _ _) h'
theorem LineIn.keepT {H H' : Hp} {t c h : Addr} {cells held : List Int} {ring : Bool} (l : LineIn H t c h cells held ring) (s : SameT H H') : LineIn H' t c h cells held ring := ⟨s _ _ l.at_, s _ _ l.cs, s _ _ l.hs⟩
/-- what the law's main loop keeps -/
def LawI (Hk : Hp) (a r p h2 t wa pr lf lw lr c : Addr) (cells held : List Int) (ring : Bool) (wish : List (Option Int)) (prices : List Int) (colours : Nat) (top : Int) (xs : List V) (j : Nat) (σ : L2.St) (H1 : Hp) : Prop :=
  ∃ (y13 y14 y15 : Option V) (fs : List V), σ = [some (.ref a), some (.ref r), some (.ref p), some (.int colours), some (.int cells.length), some (.ref h2), some (.bl ring), some (.ref t), some (.ref wa), some (.int top), some (.ref pr), some (.ref lf), some (.ref lw), y13, y14, y15] ∧
    Same Hk H1 ∧ H1 lr = some (.lst xs) ∧ Paired (TupI H1) xs (reps colours cells cells.length) ∧ H1 lf = some (.lst fs) ∧
    H1 lw = some (.lst (((((reps colours cells cells.length).take j).filter (accB cells.length held ring wish)).map fun cs => (mkT cells held ring wish (List.replicate cells.length 1) colours).costL cs).map V.int)) ∧
    Paired (ValAt H1) fs ((((reps colours cells cells.length).take j).filter (accB cells.length held ring wish)).map fun cs => ((mkT cells held ring wish prices colours).costL cs, cs))
def rLen (K : PySem.W.Frag) : List V → Hp → VK → Prop := fun xs H Q => ∃ p ys, xs = [.ref p] ∧ (SqL K H p ys ∨ SqT K H p ys) ∧ Q (.int ys.length) H
def lawTest : TT := tB (tCall spFits [] E0 (tCons (tCall spRest [] E0 (tCons (tTup (tCons (tVar 13) (tCons (tVar 5) (tCons (tVar 6) tNil)))) tNil)) (tCons (tVar 8) tNil)))
def lawYes (K : PySem.W.Frag) : TS := tSeq (tAsg (tLc (iRng1 (tCons (tVar 4) tNil)) (gName 15) (tTest (tOp rNe (tOp (rIxT K) (tVar 13) (tVar 15)) (tOp (rIxT K) (tOp (rIxT K) (tVar 7) (tC (.int 0))) (tVar 15)))) (tVar 15) [15]) (gName 14))
  (tSeq (tDrop (tBM K "list" rAppend (tVar 11) (tCons (tTup (tCons (tCB (rSum K) (tCons (tLc (iList K (tVar 14)) (gName 15) tYes (tOp (rIxT K) (tVar 10) (tVar 15)) [15]) tNil)) (tCons (tVar 13) tNil))) tNil)))
    (tDrop (tBM K "list" rAppend (tVar 12) (tCons (tCB (rLen K) (tCons (tVar 14) tNil)) tNil))))
theorem law_turn {K : PySem.W.Frag} {D : Ends} {Hk : Hp} {a r f h2 t wa pr lf lw lr c : Addr} {cells held2 : List Int} {ring : Bool} {wish : List (Option Int)} {prices : List Int} {colours : Nat} {top : Int} {xs : List V}
    (L : LineIn Hk t c h2 cells held2 ring) (hw : Hk wa = some (.tup (wish.map oV))) (hp : Hk pr = some (.tup (prices.map V.int))) (hlf : Hk lf = none) (hlw : Hk lw = none) (hlwl : lw ≠ lf) (hrf : lr ≠ lf) (hrw : lr ≠ lw)
    (m6 : cells.length ≤ 6) (hwl : wish.length = cells.length) (hpl : prices.length = cells.length) (hx729 : xs.length ≤ 729) (j : Nat) (x : V) (σ : L2.St) (H1 : Hp) (hj : xs[j]? = some x)
    (I : LawI Hk a r f h2 t wa pr lf lw lr c cells held2 ring wish prices colours top xs j σ H1) (hnx : ∀ σ H, LawI Hk a r f h2 t wa pr lf lw lr c cells held2 ring wish prices colours top xs (j + 1) σ H → D.nx σ H) :
    gName 13 x σ H1 fun σ2 H2 => tIfS lawTest (lawYes K) tNext D σ2 H2 := by
  obtain ⟨y13, y14, y15, fs, rfl, t1, hlr1, hpx1, hlf1, hlw1, hfs⟩ := I
  obtain ⟨cs, hcs, bo, rfl, hbo⟩ := paired_get hpx1 hj
  have hj729 : j < 729 := by
    have := (List.getElem?_eq_some_iff.mp hj).1
    omega
  have hcsl : cs.length = cells.length := (mem_reps.mp (List.mem_of_getElem? hcs)).1
  have htk : ((reps colours cells cells.length).take (j + 1)).filter (accB cells.length held2 ring wish) = ((reps colours cells cells.length).take j).filter (accB cells.length held2 ring wish) ++ (if accB cells.length held2 ring wish cs = true then [cs] else []) := by
    rw [List.take_succ, hcs, List.filter_append]
    congr 1
    show List.filter _ [cs] = _
    rw [List.filter_cons, List.filter_nil]
  have hfl : (((reps colours cells cells.length).take j).filter (accB cells.length held2 ring wish)).length ≤ 729 := by
    have h1 := List.length_filter_le (accB cells.length held2 ring wish) ((reps colours cells cells.length).take j)
    rw [List.length_take] at h1
    omega
  have hfsl : fs.length ≤ 729 := by rw [Paired.length hfs, List.length_map]; exact hfl
  have L1 := L.keep t1
  dsimp only [gName, tIfS]
  refine tt_mid (Mid := fun b H2 => b = accB cells.length held2 ring wish cs ∧ Same H1 H2) (fun R k => ?_) ?_
  · refine ⟨_, rfl, _, rfl, _, rfl, (by show 3 ≤ sizeLine; decide), fun tl htl => ?_⟩
    have s1 := same_new (o := HO.tup [V.ref bo, V.ref h2, V.bl ring]) htl
    refine ⟨tl, bo, h2, cs, held2, ring, rfl, ⟨upd_same, s1 _ _ hbo, s1 _ _ L1.hs⟩, by omega, fun e H2 s2 => ?_, fun rr e H2 br s2 hbr => ?_⟩
    · rw [hcsl] at e
      refine ⟨_, rfl, .non, wa, wish, rfl, (t1.trans (s1.trans s2)) _ _ hw, by omega, .inl ⟨rfl, fun H3 s3 => ⟨_, rfl, k _ _ ⟨?_, (s1.trans s2).trans s3⟩⟩⟩⟩
      unfold accB
      rw [e]
    · rw [hcsl] at e
      have hrl := runL_len hcsl e
      refine ⟨_, rfl, _, wa, wish, rfl, (t1.trans (s1.trans s2)) _ _ hw, by omega, .inr ⟨br, rr, rfl, hbr, by omega, fun H3 s3 => ⟨_, rfl, k _ _ ⟨?_, (s1.trans s2).trans s3⟩⟩⟩⟩
      unfold accB
      rw [e, hwl]
  · rintro b H2 ⟨rfl, s2⟩
    cases hacc : accB cells.length held2 ring wish cs with
    | false =>
      rw [hacc, if_neg (by decide), List.append_nil] at htk
      refine iteF (hnx _ _ ⟨_, _, _, fs, rfl, t1.trans s2, s2 _ _ hlr1, Paired.mapP hpx1 fun _ _ z => z.keep s2, s2 _ _ hlf1, ?_, ?_⟩)
      · rw [htk]; exact s2 _ _ hlw1
      · rw [htk]; exact Paired.mapP hfs fun _ _ z => z.keep s2
    | true =>
      rw [hacc, if_pos rfl] at htk
      have hbo2 := s2 _ _ hbo
      have L2' := L1.keep s2
      refine iteT ⟨_, rfl, _, rfl, (by omega), (by omega), fun D1 hD1 => lc_range (lo := 0) (n := ((cells.length : Nat) : Int).toNat) (fun i H3 => Same H2 H3 ∧ H3 D1 = some (.lst ((natsI ((List.range i).filter (chgB cells cs))).map V.int))) ⟨same_new hD1, upd_same⟩ (fun i H3 hi ⟨s3, hD3⟩ => ?_) (fun H3 ⟨s3, hD3⟩ => ?_)⟩
      · have hil : i < cells.length := by omega
        rw [Int.zero_add]
        have hn := filter_snoc (chgB cells cs) i
        refine ⟨rfl, _, rfl, _, rfl, bo, _, _, _, rfl, rfl, SqT.of (s3 _ _ hbo2), atI_nat (at_cell (by omega)), _, rfl, t, _, _, _, rfl, rfl, SqT.of (s3 _ _ L2'.at_), rfl, _, rfl, c, _, _, _, rfl, rfl, SqT.of (s3 _ _ L2'.cs), atI_nat (at_cell hil), rfl, _, rfl, ?_⟩
        have ech : (!decide (V.int (cOf cs i) = V.int (cOf cells i))) = chgB cells cs i := by rw [dec_int]; rfl
        rw [ech]
        cases e : chgB cells cs i with
        | true =>
          rw [e, if_pos rfl] at hn
          refine iteT ⟨_, rfl, _, hD3, small1000 ?_, same_upd s3 hD1, ?_⟩
          · rw [List.length_map, natsI_len]
            have := filter_len (chgB cells cs) i
            omega
          · rw [upd_same, hn, natsI_snoc, List.map_append]
            rfl
        | false =>
          rw [e, if_neg (by decide), List.append_nil] at hn
          exact iteF ⟨s3, by rw [hn]; exact hD3⟩
      · rw [Int.toNat_natCast] at hD3
        have hks : ∀ k ∈ (List.range cells.length).filter (chgB cells cs), k < cells.length := fun k hk => List.mem_range.mp (List.mem_filter.mp hk).1
        have hkl := filter_len (chgB cells cs) cells.length
        have hone := costL_one (cells := cells) (held := held2) (ring := ring) (wish := wish) (colours := colours) cs
        have hcost := costL_eq (cells := cells) (held := held2) (ring := ring) (wish := wish) (prices := prices) (colours := colours) cs
        generalize (List.range cells.length).filter (chgB cells cs) = ks at hD3 hks hkl hone hcost
        have s23 := s2.trans s3
        refine ⟨_, rfl, .inl ⟨rfl, _, SqL.of (s23 _ _ hlf1)⟩, _, rfl, D1, rfl, ⟨_, SqL.of hD3⟩, fun D2 hD2 => lc_list (K := K) (a := D1) (xs := (natsI ks).map V.int) (fun i H4 => Same H3 H4 ∧ H4 D2 = some (.lst (((ks.take i).map fun k => prices.getD k 0).map V.int))) ⟨same_new hD2, upd_same⟩ (fun i H4 _ z => SqL.of (z.1 _ _ hD3)) ?_ ?_⟩
        · rintro i x H4 hi ⟨s4, hD4⟩
          obtain ⟨z, hz, rfl⟩ := ints_get hi
          have hz' : (ks.map Int.ofNat)[i]? = some z := hz
          rw [List.getElem?_map] at hz'
          obtain ⟨k, hk, e⟩ := Option.map_eq_some_iff.mp hz'
          have ez : z = (k : Int) := e.symm
          subst ez
          have hkn := hks k (List.mem_of_getElem? hk)
          have hil := (List.getElem?_eq_some_iff.mp hk).1
          refine ⟨rfl, _, rfl, _, rfl, pr, _, _, _, rfl, rfl, SqT.of ((t1.trans (s23.trans s4)) _ _ hp), atI_nat (at_cell (by omega)), _, hD4, small1000 (by rw [List.length_map, List.length_map, List.length_take]; omega), same_upd s4 hD2, ?_⟩
          rw [upd_same, List.take_succ, hk, List.map_append, List.map_append]
          rfl
        · rintro H4 ⟨s4, hD4⟩
          have ekl : ((natsI ks).map V.int).length = ks.length := by rw [List.length_map, natsI_len]
          rw [ekl, List.take_length] at hD4
          have s24 := s23.trans s4
          refine ⟨D2, _, rfl, SqL.of hD4, _, rfl, (by show 2 ≤ sizeLine; decide), fun tv htv => ?_⟩
          have s5 := same_new (o := HO.tup [V.int (ks.map fun k => prices.getD k 0).sum, V.ref bo]) htv
          have s25 := s24.trans s5
          refine ⟨lf, _, _, rfl, rfl, s25 _ _ hlf1, small1000 (by omega), ?_⟩
          have hlw5 := s25 _ _ hlw1
          have hlf5 := s25 _ _ hlf1
          have hD15 := (s4.trans s5) _ _ hD3
          have hv5 : ValAt (upd H4 tv (HO.tup [V.int (ks.map fun k => prices.getD k 0).sum, V.ref bo])) (V.ref tv) ((mkT cells held2 ring wish prices colours).costL cs, cs) := ⟨tv, bo, rfl, by rw [upd_same, hcost], s25 _ _ hbo⟩
          have hk5 := t1.trans s25
          generalize upd H4 tv (HO.tup [V.int (ks.map fun k => prices.getD k 0).sum, V.ref bo]) = H5 at s25 hlw5 hlf5 hD15 hv5 hk5 ⊢
          have hD1lf : D1 ≠ lf := (ne_of_none (s2 _ _ hlf1) hD1).symm
          refine ⟨_, rfl, .inl ⟨rfl, _, SqL.of (by rw [upd_ne hlwl]; exact hlw5)⟩, _, rfl, D1, _, rfl, .inl (SqL.of (by rw [upd_ne hD1lf]; exact hD15)), lw, _, _, rfl, rfl, by rw [upd_ne hlwl]; exact hlw5, small1000 (by rw [List.length_map, List.length_map]; omega), ?_⟩
          have sT6 : SameT H5 (upd H5 lf (.lst (fs ++ [V.ref tv]))) := sameT_upd hlf5 fun xs z => by cases z
          have hlw6 : (upd H5 lf (.lst (fs ++ [V.ref tv]))) lw = _ := Eq.trans (upd_ne hlwl) hlw5
          refine hnx _ _ ⟨_, _, _, fs ++ [V.ref tv], rfl, same_upd (same_upd hk5 hlf) hlw, ?_, ?_, ?_, ?_, ?_⟩
          · rw [upd_ne hrw, upd_ne hrf]; exact s25 _ _ hlr1
          · have sT7 := sameT_upd (u := HO.lst ((((((reps colours cells cells.length).take j).filter (accB cells.length held2 ring wish)).map fun cs => (mkT cells held2 ring wish (List.replicate cells.length 1) colours).costL cs).map V.int) ++ [V.int ((natsI ks).map V.int).length])) hlw6 (fun xs z => by cases z)
            exact Paired.mapP hpx1 fun _ _ z => ((z.keep s25).keepT sT6).keepT sT7
          · rw [upd_ne hlwl.symm, upd_same]
          · rw [upd_same, htk, List.map_append, List.map_append, ekl, hone]
            rfl
          · rw [htk, List.map_append]
            have sT7 := sameT_upd (u := HO.lst ((((((reps colours cells cells.length).take j).filter (accB cells.length held2 ring wish)).map fun cs => (mkT cells held2 ring wish (List.replicate cells.length 1) colours).costL cs).map V.int) ++ [V.int ((natsI ks).map V.int).length])) hlw6 (fun xs z => by cases z)
            exact Paired.snoc (Paired.mapP hfs fun _ _ z => ((z.keep s25).keepT sT6).keepT sT7) ((hv5.keepT sT6).keepT sT7)
end Flk

set_option Elab.async false
set_option linter.all false
set_option maxRecDepth 100000
set_option maxHeartbeats 16000000
/-! The walk, 23c: the end of law, as a reading. -/
namespace Flk
open PySem PySem.Spec PyProof.Rows L2
def lawFin (K : PySem.W.Frag) : TS := tRet (tCall (spAlike 2) [] E0 (tCons (tCall spPainted [] E0 (tCons (tVar 7) (tCons (tVar 8) (tCons (tVar 3) tNil)))) (tCons (tIf (tTest (tOp (rNeD K) (tVar 12) (tLst tNil))) (tCB (rMin K) (tCons (tVar 12) tNil)) (tC .non)) tNil)))
def lawMid (K : PySem.W.Frag) : TS := tIfS (tNot (tB (tCall (spAlike 2) [] E0 (tCons (tCall spPaint [] E0 (tCons (tVar 7) (tCons (tVar 8) (tCons (tVar 10) (tCons (tVar 3) tNil))))) (tCons (tIf (tTest (tOp (rNeD K) (tVar 11) (tLst tNil))) (tCB (rMinV K) (tCons (tVar 11) tNil)) (tC .non)) tNil))))) (tRet (tC (.bl false))) tNext
theorem law_fin {K : PySem.W.Frag} {D : Ends} {H : Hp} {a r f h2 t wa pr lf lw c : Addr} {cells held2 : List Int} {ring : Bool} {wish : List (Option Int)} {colours : Nat} {top : Int} {y13 y14 y15 : Option V}
    (L : LineIn H t c h2 cells held2 ring) (W : LineOk cells held2 ring) (h50 : held2.length ≤ 50) (hw : H wa = some (.tup (wish.map oV))) (hwok : WishOk cells.length wish) (c1 : 1 ≤ colours) (c3 : colours ≤ 3)
    (hlw : H lw = some (.lst (((accL cells held2 ring wish colours).map fun cs => (mkT cells held2 ring wish (List.replicate cells.length 1) colours).costL cs).map V.int))) (q : ∀ H', D.rt (.bl true) H') :
    lawFin K D [some (.ref a), some (.ref r), some (.ref f), some (.int colours), some (.int cells.length), some (.ref h2), some (.bl ring), some (.ref t), some (.ref wa), some (.int top), some (.ref pr), some (.ref lf), some (.ref lw), y13, y14, y15] H := by
  refine ⟨_, rfl, _, rfl, _, rfl, t, c, h2, wa, cells, held2, ring, wish, colours, rfl, L, W, h50, hw, hwok, c1, c3, fun H2 v o s2 hb hv => ?_⟩
  have hbo := IsBest.unique hb (bestOf_best _) spec_acc
  refine ⟨_, rfl, Nat.zero_le _, fun z hz => ?_⟩
  have s3 := same_new (o := HO.lst []) hz
  have hlw3 := s3 _ _ (s2 _ _ hlw)
  refine ⟨_, _, dp_ints hlw3, dp_nil upd_same, shaped_ints _, rfl, _, rfl, ?_⟩
  rw [eqv_nilD]
  generalize accL cells held2 ring wish colours = l at hlw hlw3 hbo ⊢
  cases l with
  | nil =>
    have ho : o = none := hbo
    subst ho
    subst hv
    exact iteE rfl ⟨_, _, rfl, .inl (.inl ⟨rfl, rfl⟩), fun H' _ => q H'⟩
  | cons x l =>
    refine iteY rfl ⟨_, rfl, lw, _, rfl, SqL.of hlw3, by rw [List.length_map, List.length_cons]; omega, fun m hm hle => ?_⟩
    obtain ⟨u, eu, hu⟩ : ∃ u, o = some u ∧ (u ∈ ((x :: l).map fun cs => ((mkT cells held2 ring wish (List.replicate cells.length 1) colours).costL cs, cs)) ∧ ∀ w ∈ ((x :: l).map fun cs => ((mkT cells held2 ring wish (List.replicate cells.length 1) colours).costL cs, cs)), vle u w) := by
      have h1 := bestOf_best ((x :: l).map fun cs => ((mkT cells held2 ring wish (List.replicate cells.length 1) colours).costL cs, cs))
      rw [← hbo] at h1
      cases o with
      | none => exact absurd List.mem_cons_self (h1 ((mkT cells held2 ring wish (List.replicate cells.length 1) colours).costL x, x))
      | some u => exact ⟨u, rfl, h1⟩
    subst eu
    subst hv
    have em : u.1 = m := by
      obtain ⟨cs, hcs, e⟩ := List.mem_map.mp hu.1
      have h1 : m ≤ u.1 := hle _ (List.mem_map.mpr ⟨cs, hcs, by rw [← e]⟩)
      obtain ⟨cs2, hcs2, e2⟩ := List.mem_map.mp hm
      have h2 := hu.2 _ (List.mem_map.mpr ⟨cs2, hcs2, rfl⟩)
      have h3 : u.1 ≤ m := by
        rw [← e2]
        rcases h2 with h2 | ⟨h2, _⟩
        · exact Int.le_of_lt h2
        · exact Int.le_of_eq h2
      omega
    exact ⟨_, _, rfl, .inl (.inr ⟨m, by rw [← em], rfl⟩), fun H' _ => q H'⟩
theorem law_mid {K : PySem.W.Frag} {D : Ends} {Hk H : Hp} {a r f h2 t wa pr lf lw lr c : Addr} {cells held2 : List Int} {ring : Bool} {wish : List (Option Int)} {prices : List Int} {colours : Nat} {top : Int} {xs : List V} {σ : L2.St}
    (L0 : LineIn Hk t c h2 cells held2 ring) (W : LineOk cells held2 ring) (h50 : held2.length ≤ 50) (hw0 : Hk wa = some (.tup (wish.map oV))) (hwok : WishOk cells.length wish) (hp0 : Hk pr = some (.tup (prices.map V.int))) (hpok : PricesOk cells.length prices) (c1 : 1 ≤ colours) (c3 : colours ≤ 3)
    (I : LawI Hk a r f h2 t wa pr lf lw lr c cells held2 ring wish prices colours top xs xs.length σ H)
    (q : ∀ H' y13 y14 y15, LineIn H' t c h2 cells held2 ring → H' wa = some (.tup (wish.map oV)) → H' lw = some (.lst (((accL cells held2 ring wish colours).map fun cs => (mkT cells held2 ring wish (List.replicate cells.length 1) colours).costL cs).map V.int)) →
      D.nx [some (.ref a), some (.ref r), some (.ref f), some (.int colours), some (.int cells.length), some (.ref h2), some (.bl ring), some (.ref t), some (.ref wa), some (.int top), some (.ref pr), some (.ref lf), some (.ref lw), y13, y14, y15] H') :
    lawMid K D σ H := by
  obtain ⟨y13, y14, y15, fs, rfl, t1, hlr, hpx, hlf, hlw, hfs⟩ := I
  rw [Paired.length hpx, List.take_length] at hlw hfs
  have ea : (reps colours cells cells.length).filter (accB cells.length held2 ring wish) = accL cells held2 ring wish colours := rfl
  rw [ea] at hlw hfs
  have L := L0.keep t1
  have hw := t1 _ _ hw0
  refine ⟨_, rfl, _, rfl, _, rfl, _, rfl, t, c, h2, wa, pr, cells, held2, ring, wish, prices, colours, rfl, L, W, h50, hw, hwok, t1 _ _ hp0, hpok, c1, c3, fun H2 v o s2 hb hv => ?_⟩
  have hbo := IsBest.unique hb (bestOf_best _) spec_acc
  have hlen : ∀ u, o = some u → u.2.length ≤ 20 := fun u eu => by
    subst eu
    have h1 : (mkT cells held2 ring wish prices colours).Spec u := hb.1
    obtain ⟨cs, hcs, _, e, _⟩ := h1
    rw [e]
    have : cs.length = cells.length := hcs
    have := W.len6
    show cs.length ≤ 20
    omega
  refine ⟨_, rfl, Nat.zero_le _, fun z hz => ?_⟩
  have s3 := same_new (o := HO.lst []) hz
  have s23 := s2.trans s3
  have hlf3 := s23 _ _ hlf
  have hfs3 : Paired (ValAt (upd H2 z (HO.lst []))) fs _ := Paired.mapP hfs fun _ _ z => z.keep s23
  have hv3 : OptV (upd H2 z (HO.lst [])) v o := by
    cases o with
    | none => exact hv
    | some u => exact ValAt.keep hv s3
  have hz3 : (upd H2 z (HO.lst [])) z = some (.lst []) := upd_same
  refine ⟨_, _, .lst (SqL.of hlf3) (dpAll_vals hfs3), dp_nil hz3, shaped_vals _, rfl, _, rfl, ?_⟩
  generalize upd H2 z (HO.lst []) = H3 at s3 s23 hlf3 hfs3 hv3 hz3 ⊢
  have fin : ∀ H4, Same H3 H4 → D.nx [some (.ref a), some (.ref r), some (.ref f), some (.int colours), some (.int cells.length), some (.ref h2), some (.bl ring), some (.ref t), some (.ref wa), some (.int top), some (.ref pr), some (.ref lf), some (.ref lw), y13, y14, y15] H4 := fun H4 s4 =>
    q H4 y13 y14 y15 (L.keep (s23.trans s4)) ((s23.trans s4) _ _ hw) ((s23.trans s4) _ _ hlw)
  rw [eqv_nilD]
  generalize accL cells held2 ring wish colours = l at hfs3 hbo ⊢
  cases l with
  | nil =>
    have ho : o = none := hbo
    subst ho
    exact iteE rfl ⟨_, _, rfl, alk_val hv3 (show OptV H3 .non none from rfl) hlen, fun H' s4 => ⟨_, rfl, iteF (fin H' s4)⟩⟩
  | cons x l =>
    refine iteY rfl ⟨_, rfl, lf, fs, _, rfl, SqL.of hlf3, hfs3, (fun e => by cases e), fun w u hwu hbest => ?_⟩
    rw [← hbo] at hbest
    subst hbest
    exact ⟨_, _, rfl, alk_val hv3 (show OptV H3 w (some u) from hwu) hlen, fun H' s4 => ⟨_, rfl, iteF (fin H' s4)⟩⟩
end Flk

set_option Elab.async false
set_option linter.all false
set_option maxRecDepth 100000
set_option maxHeartbeats 16000000
/-! The walk, 24: law. -/
namespace Flk
open PySem PySem.Spec PyProof.Rows L2
theorem sameXr_t {K : PySem.W.Frag} {H H' : Hp} {r a : Addr} {ns : List Int} (R : RowI K H r a ns) (s : SameX r H H') : SameT H H' := fun b xs h => by
  obtain ⟨o, ho⟩ := R.some
  exact s _ _ (ne_of h ho (by intro z; cases z)) h
section
variable {P : Program} {w : World} {K : PySem.W.Frag} {mg : Str → Option Value} {base : Heap} {CC CT : Addr}
def spLaw (K : PySem.W.Frag) : Sp := fun vs H Q _ => ∃ (a : Addr) (ns : List Int), vs = [.ref a] ∧ SqL K H a (ns.map V.int) ∧ ns.length ≤ 63 ∧ ∀ H', Q (.bl true) H'
/-- the defs that law calls -/
structure LawD (P : Program) (w : World) (K : PySem.W.Frag) (mg : Str → Option Value) (base : Heap) : Prop where
  taken : GFn P w K mg base 1 "_law_taken" ["_law_row", "_law_many"] (spTaken K)
  pick : GFn P w K mg base 2 "_law_pick" ["_law_row", "_law_things"] (spPick K)
  small : GFn P w K mg base 3 "_law_small" ["_law_row"] (spSmall K)
  wish : GFn P w K mg base 3 "_law_wish" ["_law_row", "_law_many", "_law_colours"] (spWish K)
  repaints : GFn P w K mg base 1 "_law_repaints" ["_law_line", "_law_colours"] spRepaints
  fits : GFn P w K mg base 1 "_law_fits_wish" ["_law_cells", "_law_wish_here"] spFits
  rest : GFn P w K mg base 5 "_law_rest" ["_law_line"] spRest
  alike : GFn P w K mg base 3 "_law_alike" ["_law_found", "_law_due"] (spAlike 2)
  paint : GFn P w K mg base 8 "cheapest_paint" ["line", "wish", "prices", "colours"] spPaint
  painted : GFn P w K mg base 9 "fewest_painted" ["line", "wish", "colours"] spPainted
abbrev nLaw : List Str := ["_law_script", "_law_row", "_law_frame", "_law_colours", "_law_many", "_law_held_here", "_law_is_ring", "_law_line", "_law_wish_here", "_law_top", "_law_prices", "_law_found", "_law_fewest", "_law_cells", "_law_changed", "_law_k"]
theorem scLaw : FnScope nLaw ["_law_script"] (defScope sLaw) := ⟨rfl, rfl, rfl, by decide +kernel, rfl, by decide +kernel, by decide +kernel⟩
theorem ok_law {f : Addr} {fd : FuncData} (F : Fun K "law" "law" sLaw f fd) (T : Txt K mg CC CT) (D : LawD P w K mg base) : FnOk P w K mg base CX0 10 f fd ["_law_script"] (spLaw K) := by
  obtain ⟨gt, gtd, GT, mT, kT, bT⟩ := D.taken
  obtain ⟨gp, gpd, GP, mP, kP, bP⟩ := D.pick
  obtain ⟨gs, gsd, GS, mS, kS, bS⟩ := D.small
  obtain ⟨gw, gwd, GW, mW, kW, bW⟩ := D.wish
  obtain ⟨gr, grd, GR, mR, kR, bR⟩ := D.repaints
  obtain ⟨gf, gfd, GF, mF, kF, bF⟩ := D.fits
  obtain ⟨ge, ged, GE, mE, kE, bE⟩ := D.rest
  obtain ⟨ga, gad, GA, mA, kA, bA⟩ := D.alike
  obtain ⟨g1, g1d, G1, m1, k1, b1⟩ := D.paint
  obtain ⟨g2, g2d, G2, m2, k2, b2⟩ := D.painted
  refine F.ok scLaw (fun vs H Q E h => ?_) (fun cdv A outer s H vs Q E hr h => ?_)
  · obtain ⟨a, ns, rfl, _⟩ := h
    rfl
  · obtain ⟨a, ns, rfl, hS, hlen, q⟩ := h
    have hu := hr.units
    have hr1 : Room 1 _ := hr.mono (by decide)
    have hr2 : Room 2 _ := hr.mono (by decide)
    have hr3 : Room 3 _ := hr.mono (by decide)
    have hr5 : Room 5 _ := hr.mono (by decide)
    have hr8 : Room 8 _ := hr.mono (by decide)
    have nd := scLaw.nd
    refine ⟨_, pss_cons (ps_set (i := 1) nd rfl (Or.inr rfl) (pe_lst (pa_cons (pv 0) (pa_cons pe_int (pa_cons pe_int (pa_cons pe_int pa_nil))))))
      (pss_cons (ps_asg (pe_call GS hr3 (by rfl) mS kS bS .nil pass0 (pa_cons (pv 1) pa_nil)) (pg_tup (by rfl) (pgs_cons (pg_name (i := 2) nd rfl (Or.inl rfl)) (pgs_cons (pg_name (i := 3) nd rfl (Or.inr rfl)) pgs_nil))))
      (pss_cons (ps_asg (pv 2) (pg_tup (by rfl) (pgs_cons (pg_name (i := 4) nd rfl (Or.inr rfl)) (pgs_cons (pg_name (i := 5) nd rfl (Or.inl rfl)) (pgs_cons (pg_name (i := 6) nd rfl (Or.inl rfl)) pgs_nil)))))
      (pss_cons (ps_set (i := 4) nd rfl (Or.inr rfl) (pe_callB (call_min2 rfl) (by rfl) T.zMin (by decide +kernel) (pa_cons (pv 4) (pa_cons (pe_ifExp (pt_cmpR op_lt (pv 3) pe_int (nomark _)) pe_int pe_int) pa_nil))))
      (pss_cons (ps_set (i := 5) nd rfl (Or.inl rfl) (pe_callTy call_tuple_of (by rfl) T.zTuple (by decide +kernel) (pa_cons
        (pe_lc (own := [("_law_k", 15)]) (g := gName 15) (tt := tTest (tOp (rI0 fun i j => .bl (decide (i < j))) (tVar 15) (tVar 4))) (te := tVar 15) rfl nd (pi_tup (pv 5)) (blkOk_by (own := [("_law_k", 15)]) (N := nLaw) (sc := defScope sLaw) (by decide +kernel))
          (fun _ _ _ _ _ => pg_name (i := 15) nd rfl (Or.inl rfl)) (fun _ _ _ _ _ => pts_one (pt_cmpR op_lt (pv 15) (pv 4) (nomark _))) (fun _ _ _ _ _ => pv 15)) pa_nil)))
      (pss_cons (ps_set (i := 7) nd rfl (Or.inr rfl) (pe_tup (pa_cons (pe_callTy call_tuple_of (by rfl) T.zTuple (by decide +kernel) (pa_cons
        (pe_lc (own := [("_law_k", 15)]) (g := gName 15) (tt := tYes) (te := tCall (spTaken K) [] E0 (tCons (tVar 1) (tCons (tCall (spPick K) [] E0 (tCons (tVar 1) (tCons (tLst (tCons (tVar 3) (tCons (tC (.int 3)) tNil))) tNil))) tNil))) rfl nd (pi_range1 (by rfl) T.zRange (pa_cons (pv 4) pa_nil))
          (blkOk_by (own := [("_law_k", 15)]) (N := nLaw) (sc := defScope sLaw) (by decide +kernel)) (fun _ _ _ _ _ => pg_name (i := 15) nd rfl (Or.inl rfl)) (fun _ _ _ _ _ => pts_nil)
          (fun _ _ _ _ _ => pe_call GT hr1 (by rfl) mT kT bT .nil pass0 (pa_cons (pv 1) (pa_cons (pe_call GP hr2 (by rfl) mP kP bP .nil pass0 (pa_cons (pv 1) (pa_cons (pe_lst (pa_cons (pv 3) (pa_cons pe_int pa_nil))) pa_nil))) pa_nil)))) pa_nil))
          (pa_cons (pv 5) (pa_cons (pv 6) pa_nil)))))
      (pss_cons (ps_asg (pe_tup (pa_cons (pe_call GW hr3 (by rfl) mW kW bW .nil pass0 (pa_cons (pv 1) (pa_cons (pv 4) (pa_cons (pv 3) pa_nil)))) (pa_cons (pe_call GP hr2 (by rfl) mP kP bP .nil pass0 (pa_cons (pv 1) (pa_cons (pe_lst (pa_cons pe_int (pa_cons pe_int (pa_cons pe_int pa_nil)))) pa_nil))) pa_nil)))
        (pg_tup (by rfl) (pgs_cons (pg_name (i := 8) nd rfl (Or.inl rfl)) (pgs_cons (pg_name (i := 9) nd rfl (Or.inr rfl)) pgs_nil))))
      (pss_cons (ps_set (i := 10) nd rfl (Or.inr rfl) (pe_callTy call_tuple_of (by rfl) T.zTuple (by decide +kernel) (pa_cons
        (pe_lc (own := [("_law_k", 15)]) (g := gName 15) (tt := tYes) (te := tCall (spTaken K) [] E0 (tCons (tVar 1) (tCons (tVar 9) tNil))) rfl nd (pi_range1 (by rfl) T.zRange (pa_cons (pv 4) pa_nil))
          (blkOk_by (own := [("_law_k", 15)]) (N := nLaw) (sc := defScope sLaw) (by decide +kernel)) (fun _ _ _ _ _ => pg_name (i := 15) nd rfl (Or.inl rfl)) (fun _ _ _ _ _ => pts_nil)
          (fun _ _ _ _ _ => pe_call GT hr1 (by rfl) mT kT bT .nil pass0 (pa_cons (pv 1) (pa_cons (pv 9) pa_nil)))) pa_nil)))
      (pss_cons (ps_par (i := 11) (j := 12) rfl nd rfl rfl (by decide) rfl rfl (pa_cons (pe_lst pa_nil) (pa_cons (pe_lst pa_nil) pa_nil)) (by rfl))
      (pss_cons (ps_for PassesOwn.never rfl (pi_list (pe_call GR hr1 (by rfl) mR kR bR .nil pass0 (pa_cons (pv 7) (pa_cons (pv 3) pa_nil)))) (pg_name (i := 13) nd rfl (Or.inr rfl))
        (pss_one (ps_if (pt_val (pe_call GF hr1 (by rfl) mF kF bF .nil pass0 (pa_cons (pe_call GE hr5 (by rfl) mE kE bE .nil pass0 (pa_cons (pe_tup (pa_cons (pv 13) (pa_cons (pv 5) (pa_cons (pv 6) pa_nil)))) pa_nil)) (pa_cons (pv 8) pa_nil))))
          (pss_cons (ps_setLc (i := 14) (own := [("_law_k", 15)]) (g := gName 15) (tt := tTest (tOp rNe (tOp (rIxT K) (tVar 13) (tVar 15)) (tOp (rIxT K) (tOp (rIxT K) (tVar 7) (tC (.int 0))) (tVar 15)))) (te := tVar 15) rfl nd rfl rfl (sw_true rfl rfl rfl (by decide +kernel))
            (pi_range1 (by rfl) T.zRange (pa_cons (pv 4) pa_nil)) (blkOk_by (own := [("_law_k", 15)]) (N := nLaw) (sc := defScope sLaw) (by decide +kernel)) (fun _ _ _ _ _ => pg_name (i := 15) nd rfl (Or.inl rfl))
            (fun _ _ _ _ _ => pts_one (pt_cmpR op_ne (pe_ix ix_tup (pv 13) (pv 15) (fun _ _ => rfl)) (pe_ix ix_tup (pe_ix ix_tup (pv 7) pe_int (fun _ _ => rfl)) (pv 15) (fun _ _ => rfl)) (nomark _))) (fun _ _ _ _ _ => pv 15))
          (pss_cons (ps_expr (pe_bm PySem.F.plainAttrs_list PySem.F.slot_list_append PySem.F.type_list_append mt_append (pv 11) (pa_cons (pe_tup (pa_cons (pe_callB (cr_sum rfl) (by rfl) T.zSum (by decide +kernel) (pa_cons
            (pe_lc (own := [("_law_k", 15)]) (g := gName 15) (tt := tYes) (te := tOp (rIxT K) (tVar 10) (tVar 15)) rfl nd (pi_list (pv 14)) (blkOk_by (own := [("_law_k", 15)]) (N := nLaw) (sc := defScope sLaw) (by decide +kernel)) (fun _ _ _ _ _ => pg_name (i := 15) nd rfl (Or.inl rfl)) (fun _ _ _ _ _ => pts_nil)
              (fun _ _ _ _ _ => pe_ix ix_tup (pv 10) (pv 15) (fun _ _ => rfl))) pa_nil)) (pa_cons (pv 13) pa_nil))) pa_nil)))
          (pss_one (ps_expr (pe_bm PySem.F.plainAttrs_list PySem.F.slot_list_append PySem.F.type_list_append mt_append (pv 12) (pa_cons (pe_callB call_len_seq (by rfl) T.zLen PySem.boot_len (pa_cons (pv 14) pa_nil)) pa_nil)))))) pss_nil)))
      (pss_cons (ps_if (pt_not (pt_val (pe_call GA hr3 (by rfl) mA kA bA .nil pass0 (pa_cons (pe_call G1 hr8 (by rfl) m1 k1 b1 .nil pass0 (pa_cons (pv 7) (pa_cons (pv 8) (pa_cons (pv 10) (pa_cons (pv 3) pa_nil)))))
        (pa_cons (pe_ifExp (pt_cmpR (op_neD hu) (pv 11) (pe_lst pa_nil) (nomark _)) (pe_callB (cr_minV rfl hu) (by rfl) T.zMin (by decide +kernel) (pa_cons (pv 11) pa_nil)) pe_non) pa_nil))))) (pss_one (ps_ret pe_bl)) pss_nil)
      (pss_one (ps_ret (pe_call GA hr3 (by rfl) mA kA bA .nil pass0 (pa_cons (pe_call G2 hr (by rfl) m2 k2 b2 .nil pass0 (pa_cons (pv 7) (pa_cons (pv 8) (pa_cons (pv 3) pa_nil))))
        (pa_cons (pe_ifExp (pt_cmpR (op_neD hu) (pv 12) (pe_lst pa_nil) (nomark _)) (pe_callB (cr_min rfl) (by rfl) T.zMin (by decide +kernel) (pa_cons (pv 12) pa_nil)) pe_non) pa_nil))))))))))))))), ?_⟩
    refine ⟨_, rfl, (by show 4 ≤ sizeLine; decide), fun r hr' => ?_⟩
    have sr := same_new (o := HO.lst [V.ref a, V.int 0, V.int 8226, V.int 0]) hr'
    have R1 : RowI K (upd H r (HO.lst [V.ref a, V.int 0, V.int 8226, V.int 0])) r a ns := ⟨⟨0, 8226, 0, Int.le_refl _, upd_same⟩, sr.seq hS⟩
    generalize upd H r (HO.lst [V.ref a, V.int 0, V.int 8226, V.int 0]) = H1 at sr R1 ⊢
    refine ⟨_, rfl, r, a, ns, rfl, R1, fun H2 p f h colours many held ring s2 R2 hp hf hh c1 c3 n1 n12 h3 srt hld hlen => ?_⟩
    refine ⟨p, _, rfl, SqT.of hp, rfl, _, _, rfl, _, _, rfl, rfl, ?_⟩
    refine ⟨_, rfl, f, _, rfl, SqT.of hf, rfl, _, _, rfl, _, _, rfl, _, _, rfl, rfl, ?_⟩
    refine ⟨_, rfl, ?_⟩
    show (tIf _ _ _) _ _ _
    refine val_mid (Mid := fun v H' => ∃ mo : Int, v = .int mo ∧ H' = H2 ∧ (mo = 6 ∨ mo = 5)) (fun R k => ⟨_, rfl, _, _, rfl, rfl, _, rfl, ite2 (fun _ => k _ _ ⟨6, rfl, rfl, .inl rfl⟩) (fun _ => k _ _ ⟨5, rfl, rfl, .inr rfl⟩)⟩) ?_
    rintro v H' ⟨mo, rfl, rfl, hmo⟩
    refine ⟨_, _, rfl, ?_⟩
    obtain ⟨n, en, m1, m6, mm, m3⟩ : ∃ n : Nat, (if mo < (many : Int) then mo else (many : Int)) = (n : Int) ∧ 1 ≤ n ∧ n ≤ 6 ∧ n ≤ many ∧ (ring = true → 3 ≤ n) := by
      by_cases e : mo < (many : Int)
      · rw [if_pos e]
        exact ⟨mo.toNat, by omega, by omega, by omega, by omega, fun _ => by omega⟩
      · rw [if_neg e]
        exact ⟨many, rfl, by omega, by omega, Nat.le_refl _, h3⟩
    dsimp only
    rw [en]
    -- held_here
    refine ⟨_, rfl, h, rfl, ⟨_, SqT.of hh⟩, fun D hD => lc_tup (K := K) (a := h) (xs := held.map V.int) (fun i H3 => Same H' H3 ∧ H3 D = some (.lst (((held.take i).filter fun k => decide (k < (n : Int))).map V.int))) ⟨same_new hD, upd_same⟩ (fun i H3 _ p => SqT.of (p.1 _ _ hh)) ?_ ?_⟩
    · rintro i x H3 hi ⟨s3, hD3⟩
      obtain ⟨k, hk, rfl⟩ := ints_get hi
      have hil : i < held.length := (List.getElem?_eq_some_iff.mp hk).1
      have hfl : (((held.take i).filter fun k => decide (k < (n : Int)))).length ≤ 12 := by
        have := List.length_filter_le (fun k => decide (k < (n : Int))) (held.take i)
        rw [List.length_take] at this
        omega
      have htk : (held.take (i + 1)).filter (fun k => decide (k < (n : Int))) = (held.take i).filter (fun k => decide (k < (n : Int))) ++ (if k < (n : Int) then [k] else []) := by
        rw [List.take_succ, hk, List.filter_append]
        congr 1
        show List.filter _ [k] = _
        rw [List.filter_cons, List.filter_nil]
        by_cases e : k < (n : Int) <;> simp [e]
      refine ⟨rfl, _, rfl, _, rfl, _, _, rfl, rfl, _, rfl, ite2 (fun hc => ?_) (fun hc => ?_)⟩
      · rw [if_pos (of_decide_eq_true hc)] at htk
        refine ⟨_, rfl, _, hD3, small1000 (by rw [List.length_map]; omega), same_upd s3 hD, ?_⟩
        rw [upd_same, htk, List.map_append]
        rfl
      · rw [if_neg (fun z => hc (decide_eq_true z)), List.append_nil] at htk
        exact ⟨s3, by rw [htk]; exact hD3⟩
    rintro H3 ⟨s3, hD3⟩
    rw [List.length_map, List.take_length] at hD3
    generalize hheld : held.filter (fun k => decide (k < (n : Int))) = held2 at hD3
    have srt2 : held2.Pairwise (· < ·) := by rw [← hheld]; exact srt.filter _
    have hld2 : ∀ k ∈ held2, 0 ≤ k ∧ k < (n : Int) := fun k hk => by
      rw [← hheld] at hk
      obtain ⟨k1, k2⟩ := List.mem_filter.mp hk
      exact ⟨(hld k k1).1, of_decide_eq_true k2⟩
    have hlen2 : held2.length ≤ 50 := by
      rw [← hheld]
      have := List.length_filter_le (fun k => decide (k < (n : Int))) held
      omega
    refine ⟨D, _, rfl, .inl ⟨SqL.of hD3, fun h2 hh2 => ?_⟩⟩
    have s4 := same_new (o := HO.tup (held2.map V.int)) hh2
    have R4 : RowI K (upd H3 h2 (HO.tup (held2.map V.int))) r a ns := R2.keep (s3.trans s4)
    have hh4 : (upd H3 h2 (HO.tup (held2.map V.int))) h2 = some (.tup (held2.map V.int)) := upd_same
    have sx4 : SameX r H' (upd H3 h2 (HO.tup (held2.map V.int))) := same_x (s3.trans s4) r
    clear hD hD3 s3 s4
    generalize upd H3 h2 (HO.tup (held2.map V.int)) = H4 at R4 hh4 sx4 ⊢
    -- line
    refine ⟨_, rfl, _, rfl, (by omega), (by omega), fun D hD => lc_range (lo := 0) (n := ((n : Nat) : Int).toNat) (fun i H5 => ∃ cells : List Int, SameX r H4 H5 ∧ RowI K H5 r a ns ∧ H5 D = some (.lst (cells.map V.int)) ∧ cells.length = i ∧ (∀ c ∈ cells, 0 ≤ c ∧ c < 3))
      ⟨[], same_x (same_new hD) r, R4.keep (same_new hD), upd_same, rfl, fun _ h => (nomatch h)⟩ (fun i H5 hi ⟨cells, s5, R5, hD5, hl5, hw5⟩ => ?_) (fun H5 ⟨cells, s5, R5, hD5, hcl, hcell⟩ => ?_)⟩
    · obtain ⟨xr, hxr⟩ := R4.some
      have hDr : D ≠ r := (ne_of_none hxr hD).symm
      refine ⟨rfl, _, rfl, _, rfl, _, rfl, (by show 2 ≤ sizeLine; decide), fun l hl => ?_⟩
      have s6 := same_new (o := HO.lst [V.int colours, V.int 3]) hl
      obtain ⟨xr5, hxr5⟩ := R5.some
      refine ⟨r, a, l, ns, _, rfl, R5.keep s6, upd_same, (ne_of_none hxr5 hl).symm, (by show 1 ≤ 2; decide), (by show 2 ≤ 100; decide), fun H6 v s7 R6 hv => ?_⟩
      obtain ⟨m, rfl, q1, q2⟩ : ∃ m : Int, v = .int m ∧ 1 ≤ m ∧ m ≤ 3 := by
        simp only [List.mem_cons, List.not_mem_nil, or_false] at hv
        rcases hv with rfl | rfl
        · exact ⟨_, rfl, by omega, by omega⟩
        · exact ⟨3, rfl, by decide, by decide⟩
      refine ⟨r, a, ns, m, rfl, R6, q1, by omega, fun H7 v7 s8 R7 a7 b7 => ?_⟩
      have s57 : SameX r H5 H7 := ((same_x s6 r).trans s7).trans s8
      have s47 := s5.trans s57
      refine ⟨cells.map V.int, s57 _ _ hDr hD5, small1000 (by rw [List.length_map]; omega), cells ++ [v7], sameX_upd_new s47 hD, R4.upd s47 hD R7, by rw [upd_same, List.map_append]; rfl, by rw [List.length_append, hl5]; rfl, fun c hc => ?_⟩
      rcases List.mem_append.mp hc with hc | hc
      · exact hw5 c hc
      · rw [List.mem_singleton] at hc
        subst hc
        exact ⟨a7, by omega⟩
    rw [Int.toNat_natCast] at hcl
    refine ⟨D, _, rfl, .inl ⟨SqL.of hD5, fun c hc => ?_⟩⟩
    have s6 := same_new (o := HO.tup (cells.map V.int)) hc
    refine ⟨_, rfl, _, rfl, (by show 3 ≤ sizeLine; decide), fun t ht => ?_⟩
    have s7 := same_new (o := HO.tup [V.ref c, V.ref h2, V.bl ring]) ht
    have L7 : LineIn (upd (upd H5 c (HO.tup (cells.map V.int))) t (HO.tup [V.ref c, V.ref h2, V.bl ring])) t c h2 cells held2 ring := ⟨upd_same, s7 _ _ upd_same, (s6.trans s7) _ _ (sameXr_t R4 s5 _ _ hh4)⟩
    have R7 : RowI K (upd (upd H5 c (HO.tup (cells.map V.int))) t (HO.tup [V.ref c, V.ref h2, V.bl ring])) r a ns := R5.keep (s6.trans s7)
    clear hc ht s6 s7
    generalize upd (upd H5 c (HO.tup (cells.map V.int))) t (HO.tup [V.ref c, V.ref h2, V.bl ring]) = H7 at L7 R7 ⊢
    subst hcl
    have W : LineOk cells held2 ring := ⟨m1, m6, m3, hcell, srt2, hld2⟩
    -- wish, top
    refine ⟨_, rfl, _, rfl, _, rfl, r, a, ns, cells.length, colours, rfl, R7, c1, c3, by omega, fun H8 wa wish s8 R8 hwa hwl hwb => ?_⟩
    refine ⟨_, rfl, (by show 3 ≤ sizeLine; decide), fun l hl => ?_⟩
    have s9 := same_new (o := HO.lst [V.int 2, V.int 9, V.int 1001]) hl
    obtain ⟨xr8, hxr8⟩ := R8.some
    refine ⟨r, a, l, ns, _, rfl, R8.keep s9, upd_same, (ne_of_none hxr8 hl).symm, (by show 1 ≤ 3; decide), (by show 3 ≤ 100; decide), fun H10 v s10 R10 hv => ?_⟩
    obtain ⟨top, rfl, q1, q2⟩ : ∃ m : Int, v = .int m ∧ 1 ≤ m ∧ m ≤ 1001 := by
      simp only [List.mem_cons, List.not_mem_nil, or_false] at hv
      rcases hv with rfl | rfl | rfl
      · exact ⟨2, rfl, by decide, by decide⟩
      · exact ⟨9, rfl, by decide, by decide⟩
      · exact ⟨1001, rfl, by decide, by decide⟩
    refine ⟨(by show 2 ≤ sizeLine; decide), fun pp hpp => ?_⟩
    have s11 := same_new (o := HO.tup [V.ref wa, V.int top]) hpp
    have sT7 : SameT H7 (upd H10 pp (HO.tup [V.ref wa, V.int top])) := (((sameXr_t R7 s8).trans (same_t s9)).trans (sameXr_t (R8.keep s9) s10)).trans (same_t s11)
    have sT8 : SameT H8 (upd H10 pp (HO.tup [V.ref wa, V.int top])) := ((same_t s9).trans (sameXr_t (R8.keep s9) s10)).trans (same_t s11)
    have L11 := L7.keepT sT7
    have hwa11 := sT8 _ _ hwa
    have R11 : RowI K (upd H10 pp (HO.tup [V.ref wa, V.int top])) r a ns := R10.keep s11
    refine ⟨pp, _, rfl, SqT.of upd_same, rfl, _, _, rfl, _, _, rfl, rfl, ?_⟩
    clear hpp s11 sT7 sT8
    generalize upd H10 pp (HO.tup [V.ref wa, V.int top]) = H11 at L11 hwa11 R11 ⊢
    -- prices
    refine ⟨_, rfl, _, rfl, (by omega), (by omega), fun D hD => lc_range (lo := 0) (n := ((cells.length : Nat) : Int).toNat) (fun i H5 => ∃ prices : List Int, SameX r H11 H5 ∧ RowI K H5 r a ns ∧ H5 D = some (.lst (prices.map V.int)) ∧ prices.length = i ∧ (∀ c ∈ prices, 0 ≤ c ∧ c ≤ 1000))
      ⟨[], same_x (same_new hD) r, R11.keep (same_new hD), upd_same, rfl, fun _ h => (nomatch h)⟩ (fun i H5 hi ⟨prices, s5, R5, hD5, hl5, hw5⟩ => ?_) (fun H12 ⟨prices, s12, R12, hD12, hpl, hpb⟩ => ?_)⟩
    · obtain ⟨xr, hxr⟩ := R11.some
      have hDr : D ≠ r := (ne_of_none hxr hD).symm
      refine ⟨rfl, _, rfl, _, rfl, r, a, ns, top, rfl, R5, q1, by omega, fun H6 v6 s6 R6 a6 b6 => ?_⟩
      have s56 := s5.trans s6
      refine ⟨prices.map V.int, s6 _ _ hDr hD5, small1000 (by rw [List.length_map]; omega), prices ++ [v6], sameX_upd_new s56 hD, R11.upd s56 hD R6, by rw [upd_same, List.map_append]; rfl, by rw [List.length_append, hl5]; rfl, fun c hc => ?_⟩
      rcases List.mem_append.mp hc with hc | hc
      · exact hw5 c hc
      · rw [List.mem_singleton] at hc
        subst hc
        exact ⟨a6, by omega⟩
    rw [Int.toNat_natCast] at hpl
    refine ⟨D, _, rfl, .inl ⟨SqL.of hD12, fun pr hpr => ?_⟩⟩
    have s13 := same_new (o := HO.tup (prices.map V.int)) hpr
    have sT11 : SameT H11 (upd H12 pr (HO.tup (prices.map V.int))) := (sameXr_t R11 s12).trans (same_t s13)
    have L := L11.keepT sT11
    have hw := sT11 _ _ hwa11
    have hp : (upd H12 pr (HO.tup (prices.map V.int))) pr = some (.tup (prices.map V.int)) := upd_same
    clear hpr s13 sT11
    generalize upd H12 pr (HO.tup (prices.map V.int)) = Hk at L hw hp ⊢
    clear R11 R12 s12 L11 hwa11 R10 s10 R8 s8 hwa R7 L7 R5 s5 R4 sx4
    have hpok : PricesOk cells.length prices := ⟨hpl, hpb⟩
    have hwok : WishOk cells.length wish := ⟨hwl, fun c hc => by have := hwb c hc; omega⟩
    -- found, fewest
    refine ⟨Nat.zero_le _, fun lf hlf => ⟨Nat.zero_le _, fun lw hlw => ⟨_, _, rfl, ?_⟩⟩⟩
    have s1 := same_new (o := HO.lst []) hlf
    have s2 := same_new (o := HO.lst []) hlw
    have hlwl : lw ≠ lf := fun e => by rw [e, upd_same] at hlw; cases hlw
    have hlwk : Hk lw = none := s1.free hlw
    have hf2 := s2 _ _ (upd_same (H := Hk) (a := lf) (o := HO.lst []))
    have hw2 : (upd (upd Hk lf (HO.lst [])) lw (HO.lst [])) lw = some (.lst []) := upd_same
    have s12 := s1.trans s2
    generalize upd (upd Hk lf (HO.lst [])) lw (HO.lst []) = Hm at s12 hf2 hw2 ⊢
    clear s1 s2 hlw
    refine ⟨_, rfl, _, rfl, t, c, h2, cells, held2, ring, colours, rfl, L.keep s12, m6, c3, hcell, fun Hr lr xs sr hlr hpx => ?_⟩
    have hxs : xs ≠ [] := fun e => by
      have hm : (List.range cells.length).map (cOf cells) ∈ reps colours cells cells.length := mem_reps.mpr ⟨by rw [List.length_map, List.length_range], fun k hk => by
        rw [cOf_map hk]
        exact (mem_domL (cOf_rng hcell k).1).mpr (.inr rfl)⟩
      rw [e] at hpx
      have h1 := Paired.length hpx
      have h2 := List.length_pos_of_mem hm
      rw [← h1] at h2
      exact absurd h2 (Nat.lt_irrefl 0)
    have hrf : lr ≠ lf := ne_of hlr (sr _ _ hf2) (by intro z; cases z; exact hxs rfl)
    have hrw : lr ≠ lw := ne_of hlr (sr _ _ hw2) (by intro z; cases z; exact hxs rfl)
    have hx729 : xs.length ≤ 729 := by
      rw [Paired.length hpx]
      have h1 := len_reps (colours := colours) c3 hcell cells.length
      have h2 : 3 ^ cells.length ≤ 3 ^ 6 := Nat.pow_le_pow_right (by decide) m6
      have h3 : 3 ^ 6 = 729 := by decide
      omega
    refine ⟨lr, rfl, ⟨_, SqL.of hlr⟩, for_list (K := K) (a := lr) (xs := xs) (LawI Hk a r f h2 t wa pr lf lw lr c cells held2 ring wish prices colours top xs) ⟨_, _, _, [], rfl, s12.trans sr, hlr, hpx, sr _ _ hf2, sr _ _ hw2, .nil⟩ (fun j σ H1 _ ⟨_, _, _, _, _, _, hlr1, _⟩ => SqL.of hlr1) ?_ ?_⟩
    · exact fun j x σ H1 hj I => law_turn (K := K) L hw hp hlf hlwk hlwl hrf hrw m6 hwl hpl hx729 j x σ H1 hj I (fun _ _ z => z)
    · exact fun σ H1 I => law_mid (K := K) L W hlen2 hw hwok hp hpok c1 c3 I (fun H' y13 y14 y15 L' hw' hlw' => law_fin (K := K) L' W hlen2 hw' hwok c1 c3 hlw' q)
end
end Flk

set_option Elab.async false
set_option linter.all false
set_option maxRecDepth 100000
set_option maxHeartbeats 16000000
/-! The walk, 25: what the top has written. -/
namespace Flk
open PySem PySem.Spec PyProof.Rows L2
theorem all_mk {l : PySem.W.OpenLaw} {w : World} {K : PySem.W.Frag} {h : Heap} {mg : Str → Option Value} {fa CC CT : Addr} (X : K.In h) (G : h.Ns mainGlobals mg) (hfa : mg "law" = some (.ref fa))
    {fIsIn fNeedLine fIsCells fHeldIn fNeedCol fNoPrice fMorePrice fBegin fExtend fJoin fClose fInit fSuits fStill fPut fStretch fFurther fRow fJoined fAround fRing fValue fFrame fIsWish fNeedWish fNeedPaint fCosts fGoals fCheapest fPaint fFewest fPainted fTaken fPick fSmall fWish fRepaints fFits fHeld fReady fStep fRun fRest fAlike fLaw : Addr} {odIsIn anIsIn odNeedLine anNeedLine odIsCells anIsCells odHeldIn anHeldIn odNeedCol anNeedCol odNoPrice anNoPrice odMorePrice anMorePrice odBegin anBegin odExtend anExtend odJoin anJoin odClose anClose odInit anInit odSuits anSuits odStill anStill odPut anPut odStretch anStretch odFurther anFurther odRow anRow odJoined anJoined odAround anAround odRing anRing odValue anValue odFrame anFrame odIsWish anIsWish odNeedWish anNeedWish odNeedPaint anNeedPaint odCosts anCosts odGoals anGoals odCheapest anCheapest odPaint anPaint odFewest anFewest odPainted anPainted odTaken anTaken odPick anPick odSmall anSmall odWish anWish odRepaints anRepaints odFits anFits odHeld anHeld odReady anReady odStep anStep odRun anRun odRest anRest odAlike anAlike odLaw anLaw : Option Addr} {slIsIn slNeedLine slIsCells slHeldIn slNeedCol slNoPrice slMorePrice slBegin slExtend slJoin slClose slInit slSuits slStill slPut slStretch slFurther slRow slJoined slAround slRing slValue slFrame slIsWish slNeedWish slNeedPaint slCosts slGoals slCheapest slPaint slFewest slPainted slTaken slPick slSmall slWish slRepaints slFits slHeld slReady slStep slRun slRest slAlike slLaw : Array (Option Value)} {ocIsIn kVIsIn dcIsIn pmIsIn cdIsIn ctIsIn ocNeedLine kVNeedLine dcNeedLine pmNeedLine cdNeedLine ctNeedLine ocIsCells kVIsCells dcIsCells pmIsCells cdIsCells ctIsCells ocHeldIn kVHeldIn dcHeldIn pmHeldIn cdHeldIn ctHeldIn ocNeedCol kVNeedCol dcNeedCol pmNeedCol cdNeedCol ctNeedCol ocNoPrice kVNoPrice dcNoPrice pmNoPrice cdNoPrice ctNoPrice ocMorePrice kVMorePrice dcMorePrice pmMorePrice cdMorePrice ctMorePrice ocBegin kVBegin dcBegin pmBegin cdBegin ctBegin ocExtend kVExtend dcExtend pmExtend cdExtend ctExtend ocJoin kVJoin dcJoin pmJoin cdJoin ctJoin ocClose kVClose dcClose pmClose cdClose ctClose ocInit kVInit dcInit pmInit cdInit ctInit ocSuits kVSuits dcSuits pmSuits cdSuits ctSuits ocStill kVStill dcStill pmStill cdStill ctStill ocPut kVPut dcPut pmPut cdPut ctPut ocStretch kVStretch dcStretch pmStretch cdStretch ctStretch ocFurther kVFurther dcFurther pmFurther cdFurther ctFurther ocRow kVRow dcRow pmRow cdRow ctRow ocJoined kVJoined dcJoined pmJoined cdJoined ctJoined ocAround kVAround dcAround pmAround cdAround ctAround ocRing kVRing dcRing pmRing cdRing ctRing ocValue kVValue dcValue pmValue cdValue ctValue ocFrame kVFrame dcFrame pmFrame cdFrame ctFrame ocIsWish kVIsWish dcIsWish pmIsWish cdIsWish ctIsWish ocNeedWish kVNeedWish dcNeedWish pmNeedWish cdNeedWish ctNeedWish ocNeedPaint kVNeedPaint dcNeedPaint pmNeedPaint cdNeedPaint ctNeedPaint ocCosts kVCosts dcCosts pmCosts cdCosts ctCosts ocGoals kVGoals dcGoals pmGoals cdGoals ctGoals ocCheapest kVCheapest dcCheapest pmCheapest cdCheapest ctCheapest ocPaint kVPaint dcPaint pmPaint cdPaint ctPaint ocFewest kVFewest dcFewest pmFewest cdFewest ctFewest ocPainted kVPainted dcPainted pmPainted cdPainted ctPainted ocTaken kVTaken dcTaken pmTaken cdTaken ctTaken ocPick kVPick dcPick pmPick cdPick ctPick ocSmall kVSmall dcSmall pmSmall cdSmall ctSmall ocWish kVWish dcWish pmWish cdWish ctWish ocRepaints kVRepaints dcRepaints pmRepaints cdRepaints ctRepaints ocFits kVFits dcFits pmFits cdFits ctFits ocHeld kVHeld dcHeld pmHeld cdHeld ctHeld ocReady kVReady dcReady pmReady cdReady ctReady ocStep kVStep dcStep pmStep cdStep ctStep ocRun kVRun dcRun pmRun cdRun ctRun ocRest kVRest dcRest pmRest cdRest ctRest ocAlike kVAlike dcAlike pmAlike cdAlike ctAlike ocLaw kVLaw dcLaw pmLaw cdLaw ctLaw : Value} {tcCells tcColour tcRing tcColours tcPrice : Tok}
    (gCC : PySem.W.nsIn K mainGlobals "Cheapest" = some (some (.ref CC)))
    (pgCC : PySem.W.plainGet K CC Str.empty = true)
    (hdCC : PySem.W.hasDictIn K CC = true)
    (poCC : PySem.W.plainOver K CC = true)
    (saCC : PySem.W.findIn K (.ref CC) "__setattr__" = some (some (.builtin "object.__setattr__")))
    (mkCC : PySem.W.makesIn K CC = true)
    (kcCC : PySem.W.keepIn K (.ref CC) = true)
    (gCT : PySem.W.nsIn K mainGlobals "Table" = some (some (.ref CT)))
    (pgCT : PySem.W.plainGet K CT Str.empty = true)
    (hdCT : PySem.W.hasDictIn K CT = true)
    (poCT : PySem.W.plainOver K CT = true)
    (saCT : PySem.W.findIn K (.ref CT) "__setattr__" = some (some (.builtin "object.__setattr__")))
    (mkCT : PySem.W.makesIn K CT = true)
    (kcCT : PySem.W.keepIn K (.ref CT) = true)
    (iCC : PySem.W.findIn K (.ref CC) "__init__" = some (some (.builtin "object.__init__")))
    (n_many : PySem.W.findIn K (.ref CT) "many" = some none)
    (n_is_ring : PySem.W.findIn K (.ref CT) "is_ring" = some none)
    (n_held : PySem.W.findIn K (.ref CT) "held" = some none)
    (n_costs : PySem.W.findIn K (.ref CT) "costs" = some none)
    (n_goals : PySem.W.findIn K (.ref CT) "goals" = some none)
    (n_longest : PySem.W.findIn K (.ref CT) "longest" = some none)
    (n_sums : PySem.W.findIn K (.ref CT) "sums" = some none)
    (n_last : PySem.W.findIn K (.ref CT) "last" = some none)
    (zInst : PySem.W.nsIn K mainGlobals "isinstance" = some none)
    (zInt : PySem.W.nsIn K mainGlobals "int" = some none)
    (zBool : PySem.W.nsIn K mainGlobals "bool" = some none)
    (zTuple : PySem.W.nsIn K mainGlobals "tuple" = some none)
    (zLen : PySem.W.nsIn K mainGlobals "len" = some none)
    (zEnum : PySem.W.nsIn K mainGlobals "enumerate" = some none)
    (zList : PySem.W.nsIn K mainGlobals "list" = some none)
    (zSorted : PySem.W.nsIn K mainGlobals "sorted" = some none)
    (zSet : PySem.W.nsIn K mainGlobals "set" = some none)
    (zRange : PySem.W.nsIn K mainGlobals "range" = some none)
    (zMin : PySem.W.nsIn K mainGlobals "min" = some none)
    (zStr : PySem.W.nsIn K mainGlobals "str" = some none)
    (zZip : PySem.W.nsIn K mainGlobals "zip" = some none)
    (zDict : PySem.W.nsIn K mainGlobals "dict" = some none)
    (zSum : PySem.W.nsIn K mainGlobals "sum" = some none)
    (cCells : PySem.W.nsIn K mainGlobals "MOST_CELLS" = some (some (.int 40 tcCells)))
    (cColour : PySem.W.nsIn K mainGlobals "MOST_COLOUR" = some (some (.int 9 tcColour)))
    (cRing : PySem.W.nsIn K mainGlobals "LEAST_RING" = some (some (.int 3 tcRing)))
    (cColours : PySem.W.nsIn K mainGlobals "MOST_COLOURS" = some (some (.int 10 tcColours)))
    (cPrice : PySem.W.nsIn K mainGlobals "MOST_PRICE" = some (some (.int 1000 tcPrice)))
    (aIsIn : PySem.W.nsIn K mainGlobals "is_in" = some (some (.ref fIsIn)))
    (lIsIn : K.lookup fIsIn = some ⟨ocIsIn, odIsIn, .func (PySem.W.fnOf "is_in" "is_in" (defArgs sIsIn) (defBody sIsIn) (defScope sIsIn) .none kVIsIn dcIsIn pmIsIn anIsIn cdIsIn ctIsIn), slIsIn⟩)
    (cIsIn_ : PySem.W.codeIn K cdIsIn "is_in" = true)
    (kIsIn : PySem.W.keepIn K (.ref fIsIn) = true)
    (aNeedLine : PySem.W.nsIn K mainGlobals "need_line" = some (some (.ref fNeedLine)))
    (lNeedLine : K.lookup fNeedLine = some ⟨ocNeedLine, odNeedLine, .func (PySem.W.fnOf "need_line" "need_line" (defArgs sNeedLine) (defBody sNeedLine) (defScope sNeedLine) .none kVNeedLine dcNeedLine pmNeedLine anNeedLine cdNeedLine ctNeedLine), slNeedLine⟩)
    (cNeedLine_ : PySem.W.codeIn K cdNeedLine "need_line" = true)
    (kNeedLine : PySem.W.keepIn K (.ref fNeedLine) = true)
    (aIsCells : PySem.W.nsIn K mainGlobals "is_cells" = some (some (.ref fIsCells)))
    (lIsCells : K.lookup fIsCells = some ⟨ocIsCells, odIsCells, .func (PySem.W.fnOf "is_cells" "is_cells" (defArgs sIsCells) (defBody sIsCells) (defScope sIsCells) .none kVIsCells dcIsCells pmIsCells anIsCells cdIsCells ctIsCells), slIsCells⟩)
    (cIsCells_ : PySem.W.codeIn K cdIsCells "is_cells" = true)
    (kIsCells : PySem.W.keepIn K (.ref fIsCells) = true)
    (aHeldIn : PySem.W.nsIn K mainGlobals "held_in" = some (some (.ref fHeldIn)))
    (lHeldIn : K.lookup fHeldIn = some ⟨ocHeldIn, odHeldIn, .func (PySem.W.fnOf "held_in" "held_in" (defArgs sHeldIn) (defBody sHeldIn) (defScope sHeldIn) .none kVHeldIn dcHeldIn pmHeldIn anHeldIn cdHeldIn ctHeldIn), slHeldIn⟩)
    (cHeldIn_ : PySem.W.codeIn K cdHeldIn "held_in" = true)
    (kHeldIn : PySem.W.keepIn K (.ref fHeldIn) = true)
    (aNeedCol : PySem.W.nsIn K mainGlobals "need_colours" = some (some (.ref fNeedCol)))
    (lNeedCol : K.lookup fNeedCol = some ⟨ocNeedCol, odNeedCol, .func (PySem.W.fnOf "need_colours" "need_colours" (defArgs sNeedCol) (defBody sNeedCol) (defScope sNeedCol) .none kVNeedCol dcNeedCol pmNeedCol anNeedCol cdNeedCol ctNeedCol), slNeedCol⟩)
    (cNeedCol_ : PySem.W.codeIn K cdNeedCol "need_colours" = true)
    (kNeedCol : PySem.W.keepIn K (.ref fNeedCol) = true)
    (aNoPrice : PySem.W.findIn K (.ref CC) "no_price" = some (some (.ref fNoPrice)))
    (iNoPrice : PySem.W.isFn K (.ref fNoPrice) = true)
    (lNoPrice : K.lookup fNoPrice = some ⟨ocNoPrice, odNoPrice, .func (PySem.W.fnOf "no_price" "Cheapest.no_price" (defArgs sNoPrice) (defBody sNoPrice) (defScope sNoPrice) .none kVNoPrice dcNoPrice pmNoPrice anNoPrice cdNoPrice ctNoPrice), slNoPrice⟩)
    (cNoPrice_ : PySem.W.codeIn K cdNoPrice "Cheapest.no_price" = true)
    (kNoPrice : PySem.W.keepIn K (.ref fNoPrice) = true)
    (aMorePrice : PySem.W.findIn K (.ref CC) "more_price" = some (some (.ref fMorePrice)))
    (iMorePrice : PySem.W.isFn K (.ref fMorePrice) = true)
    (lMorePrice : K.lookup fMorePrice = some ⟨ocMorePrice, odMorePrice, .func (PySem.W.fnOf "more_price" "Cheapest.more_price" (defArgs sMorePrice) (defBody sMorePrice) (defScope sMorePrice) .none kVMorePrice dcMorePrice pmMorePrice anMorePrice cdMorePrice ctMorePrice), slMorePrice⟩)
    (cMorePrice_ : PySem.W.codeIn K cdMorePrice "Cheapest.more_price" = true)
    (kMorePrice : PySem.W.keepIn K (.ref fMorePrice) = true)
    (aBegin : PySem.W.findIn K (.ref CC) "begin" = some (some (.ref fBegin)))
    (iBegin : PySem.W.isFn K (.ref fBegin) = true)
    (lBegin : K.lookup fBegin = some ⟨ocBegin, odBegin, .func (PySem.W.fnOf "begin" "Cheapest.begin" (defArgs sBegin) (defBody sBegin) (defScope sBegin) .none kVBegin dcBegin pmBegin anBegin cdBegin ctBegin), slBegin⟩)
    (cBegin_ : PySem.W.codeIn K cdBegin "Cheapest.begin" = true)
    (kBegin : PySem.W.keepIn K (.ref fBegin) = true)
    (aExtend : PySem.W.findIn K (.ref CC) "extend" = some (some (.ref fExtend)))
    (iExtend : PySem.W.isFn K (.ref fExtend) = true)
    (lExtend : K.lookup fExtend = some ⟨ocExtend, odExtend, .func (PySem.W.fnOf "extend" "Cheapest.extend" (defArgs sExtend) (defBody sExtend) (defScope sExtend) .none kVExtend dcExtend pmExtend anExtend cdExtend ctExtend), slExtend⟩)
    (cExtend_ : PySem.W.codeIn K cdExtend "Cheapest.extend" = true)
    (kExtend : PySem.W.keepIn K (.ref fExtend) = true)
    (aJoin : PySem.W.findIn K (.ref CC) "join" = some (some (.ref fJoin)))
    (iJoin : PySem.W.isFn K (.ref fJoin) = true)
    (lJoin : K.lookup fJoin = some ⟨ocJoin, odJoin, .func (PySem.W.fnOf "join" "Cheapest.join" (defArgs sJoin) (defBody sJoin) (defScope sJoin) .none kVJoin dcJoin pmJoin anJoin cdJoin ctJoin), slJoin⟩)
    (cJoin_ : PySem.W.codeIn K cdJoin "Cheapest.join" = true)
    (kJoin : PySem.W.keepIn K (.ref fJoin) = true)
    (aClose : PySem.W.findIn K (.ref CC) "close" = some (some (.ref fClose)))
    (iClose : PySem.W.isFn K (.ref fClose) = true)
    (lClose : K.lookup fClose = some ⟨ocClose, odClose, .func (PySem.W.fnOf "close" "Cheapest.close" (defArgs sClose) (defBody sClose) (defScope sClose) .none kVClose dcClose pmClose anClose cdClose ctClose), slClose⟩)
    (cClose_ : PySem.W.codeIn K cdClose "Cheapest.close" = true)
    (kClose : PySem.W.keepIn K (.ref fClose) = true)
    (aInit : PySem.W.findIn K (.ref CT) "__init__" = some (some (.ref fInit)))
    (iInit : PySem.W.isFn K (.ref fInit) = true)
    (lInit : K.lookup fInit = some ⟨ocInit, odInit, .func (PySem.W.fnOf "__init__" "Table.__init__" (defArgs sInit) (defBody sInit) (defScope sInit) .none kVInit dcInit pmInit anInit cdInit ctInit), slInit⟩)
    (cInit_ : PySem.W.codeIn K cdInit "Table.__init__" = true)
    (kInit : PySem.W.keepIn K (.ref fInit) = true)
    (aSuits : PySem.W.findIn K (.ref CT) "suits" = some (some (.ref fSuits)))
    (iSuits : PySem.W.isFn K (.ref fSuits) = true)
    (lSuits : K.lookup fSuits = some ⟨ocSuits, odSuits, .func (PySem.W.fnOf "suits" "Table.suits" (defArgs sSuits) (defBody sSuits) (defScope sSuits) .none kVSuits dcSuits pmSuits anSuits cdSuits ctSuits), slSuits⟩)
    (cSuits_ : PySem.W.codeIn K cdSuits "Table.suits" = true)
    (kSuits : PySem.W.keepIn K (.ref fSuits) = true)
    (aStill : PySem.W.findIn K (.ref CT) "is_still" = some (some (.ref fStill)))
    (iStill : PySem.W.isFn K (.ref fStill) = true)
    (lStill : K.lookup fStill = some ⟨ocStill, odStill, .func (PySem.W.fnOf "is_still" "Table.is_still" (defArgs sStill) (defBody sStill) (defScope sStill) .none kVStill dcStill pmStill anStill cdStill ctStill), slStill⟩)
    (cStill_ : PySem.W.codeIn K cdStill "Table.is_still" = true)
    (kStill : PySem.W.keepIn K (.ref fStill) = true)
    (aPut : PySem.W.findIn K (.ref CT) "put" = some (some (.ref fPut)))
    (iPut : PySem.W.isFn K (.ref fPut) = true)
    (lPut : K.lookup fPut = some ⟨ocPut, odPut, .func (PySem.W.fnOf "put" "Table.put" (defArgs sPut) (defBody sPut) (defScope sPut) .none kVPut dcPut pmPut anPut cdPut ctPut), slPut⟩)
    (cPut_ : PySem.W.codeIn K cdPut "Table.put" = true)
    (kPut : PySem.W.keepIn K (.ref fPut) = true)
    (aStretch : PySem.W.findIn K (.ref CT) "stretch" = some (some (.ref fStretch)))
    (iStretch : PySem.W.isFn K (.ref fStretch) = true)
    (lStretch : K.lookup fStretch = some ⟨ocStretch, odStretch, .func (PySem.W.fnOf "stretch" "Table.stretch" (defArgs sStretch) (defBody sStretch) (defScope sStretch) .none kVStretch dcStretch pmStretch anStretch cdStretch ctStretch), slStretch⟩)
    (cStretch_ : PySem.W.codeIn K cdStretch "Table.stretch" = true)
    (kStretch : PySem.W.keepIn K (.ref fStretch) = true)
    (aFurther : PySem.W.findIn K (.ref CT) "further" = some (some (.ref fFurther)))
    (iFurther : PySem.W.isFn K (.ref fFurther) = true)
    (lFurther : K.lookup fFurther = some ⟨ocFurther, odFurther, .func (PySem.W.fnOf "further" "Table.further" (defArgs sFurther) (defBody sFurther) (defScope sFurther) .none kVFurther dcFurther pmFurther anFurther cdFurther ctFurther), slFurther⟩)
    (cFurther_ : PySem.W.codeIn K cdFurther "Table.further" = true)
    (kFurther : PySem.W.keepIn K (.ref fFurther) = true)
    (aRow : PySem.W.findIn K (.ref CT) "row" = some (some (.ref fRow)))
    (iRow : PySem.W.isFn K (.ref fRow) = true)
    (lRow : K.lookup fRow = some ⟨ocRow, odRow, .func (PySem.W.fnOf "row" "Table.row" (defArgs sRow) (defBody sRow) (defScope sRow) .none kVRow dcRow pmRow anRow cdRow ctRow), slRow⟩)
    (cRow_ : PySem.W.codeIn K cdRow "Table.row" = true)
    (kRow : PySem.W.keepIn K (.ref fRow) = true)
    (aJoined : PySem.W.findIn K (.ref CT) "joined" = some (some (.ref fJoined)))
    (iJoined : PySem.W.isFn K (.ref fJoined) = true)
    (lJoined : K.lookup fJoined = some ⟨ocJoined, odJoined, .func (PySem.W.fnOf "joined" "Table.joined" (defArgs sJoined) (defBody sJoined) (defScope sJoined) .none kVJoined dcJoined pmJoined anJoined cdJoined ctJoined), slJoined⟩)
    (cJoined_ : PySem.W.codeIn K cdJoined "Table.joined" = true)
    (kJoined : PySem.W.keepIn K (.ref fJoined) = true)
    (aAround : PySem.W.findIn K (.ref CT) "around" = some (some (.ref fAround)))
    (iAround : PySem.W.isFn K (.ref fAround) = true)
    (lAround : K.lookup fAround = some ⟨ocAround, odAround, .func (PySem.W.fnOf "around" "Table.around" (defArgs sAround) (defBody sAround) (defScope sAround) .none kVAround dcAround pmAround anAround cdAround ctAround), slAround⟩)
    (cAround_ : PySem.W.codeIn K cdAround "Table.around" = true)
    (kAround : PySem.W.keepIn K (.ref fAround) = true)
    (aRing : PySem.W.findIn K (.ref CT) "ring" = some (some (.ref fRing)))
    (iRing : PySem.W.isFn K (.ref fRing) = true)
    (lRing : K.lookup fRing = some ⟨ocRing, odRing, .func (PySem.W.fnOf "ring" "Table.ring" (defArgs sRing) (defBody sRing) (defScope sRing) .none kVRing dcRing pmRing anRing cdRing ctRing), slRing⟩)
    (cRing_ : PySem.W.codeIn K cdRing "Table.ring" = true)
    (kRing : PySem.W.keepIn K (.ref fRing) = true)
    (aValue : PySem.W.findIn K (.ref CT) "value" = some (some (.ref fValue)))
    (iValue : PySem.W.isFn K (.ref fValue) = true)
    (lValue : K.lookup fValue = some ⟨ocValue, odValue, .func (PySem.W.fnOf "value" "Table.value" (defArgs sValue) (defBody sValue) (defScope sValue) .none kVValue dcValue pmValue anValue cdValue ctValue), slValue⟩)
    (cValue_ : PySem.W.codeIn K cdValue "Table.value" = true)
    (kValue : PySem.W.keepIn K (.ref fValue) = true)
    (aFrame : PySem.W.nsIn K mainGlobals "frame_of" = some (some (.ref fFrame)))
    (lFrame : K.lookup fFrame = some ⟨ocFrame, odFrame, .func (PySem.W.fnOf "frame_of" "frame_of" (defArgs sFrame) (defBody sFrame) (defScope sFrame) .none kVFrame dcFrame pmFrame anFrame cdFrame ctFrame), slFrame⟩)
    (cFrame_ : PySem.W.codeIn K cdFrame "frame_of" = true)
    (kFrame : PySem.W.keepIn K (.ref fFrame) = true)
    (aIsWish : PySem.W.nsIn K mainGlobals "is_wish" = some (some (.ref fIsWish)))
    (lIsWish : K.lookup fIsWish = some ⟨ocIsWish, odIsWish, .func (PySem.W.fnOf "is_wish" "is_wish" (defArgs sIsWish) (defBody sIsWish) (defScope sIsWish) .none kVIsWish dcIsWish pmIsWish anIsWish cdIsWish ctIsWish), slIsWish⟩)
    (cIsWish_ : PySem.W.codeIn K cdIsWish "is_wish" = true)
    (kIsWish : PySem.W.keepIn K (.ref fIsWish) = true)
    (aNeedWish : PySem.W.nsIn K mainGlobals "need_wish" = some (some (.ref fNeedWish)))
    (lNeedWish : K.lookup fNeedWish = some ⟨ocNeedWish, odNeedWish, .func (PySem.W.fnOf "need_wish" "need_wish" (defArgs sNeedWish) (defBody sNeedWish) (defScope sNeedWish) .none kVNeedWish dcNeedWish pmNeedWish anNeedWish cdNeedWish ctNeedWish), slNeedWish⟩)
    (cNeedWish_ : PySem.W.codeIn K cdNeedWish "need_wish" = true)
    (kNeedWish : PySem.W.keepIn K (.ref fNeedWish) = true)
    (aNeedPaint : PySem.W.nsIn K mainGlobals "need_paint" = some (some (.ref fNeedPaint)))
    (lNeedPaint : K.lookup fNeedPaint = some ⟨ocNeedPaint, odNeedPaint, .func (PySem.W.fnOf "need_paint" "need_paint" (defArgs sNeedPaint) (defBody sNeedPaint) (defScope sNeedPaint) .none kVNeedPaint dcNeedPaint pmNeedPaint anNeedPaint cdNeedPaint ctNeedPaint), slNeedPaint⟩)
    (cNeedPaint_ : PySem.W.codeIn K cdNeedPaint "need_paint" = true)
    (kNeedPaint : PySem.W.keepIn K (.ref fNeedPaint) = true)
    (aCosts : PySem.W.nsIn K mainGlobals "costs_of" = some (some (.ref fCosts)))
    (lCosts : K.lookup fCosts = some ⟨ocCosts, odCosts, .func (PySem.W.fnOf "costs_of" "costs_of" (defArgs sCosts) (defBody sCosts) (defScope sCosts) .none kVCosts dcCosts pmCosts anCosts cdCosts ctCosts), slCosts⟩)
    (cCosts_ : PySem.W.codeIn K cdCosts "costs_of" = true)
    (kCosts : PySem.W.keepIn K (.ref fCosts) = true)
    (aGoals : PySem.W.nsIn K mainGlobals "goals_of" = some (some (.ref fGoals)))
    (lGoals : K.lookup fGoals = some ⟨ocGoals, odGoals, .func (PySem.W.fnOf "goals_of" "goals_of" (defArgs sGoals) (defBody sGoals) (defScope sGoals) .none kVGoals dcGoals pmGoals anGoals cdGoals ctGoals), slGoals⟩)
    (cGoals_ : PySem.W.codeIn K cdGoals "goals_of" = true)
    (kGoals : PySem.W.keepIn K (.ref fGoals) = true)
    (aCheapest : PySem.W.nsIn K mainGlobals "cheapest" = some (some (.ref fCheapest)))
    (lCheapest : K.lookup fCheapest = some ⟨ocCheapest, odCheapest, .func (PySem.W.fnOf "cheapest" "cheapest" (defArgs sCheapest) (defBody sCheapest) (defScope sCheapest) .none kVCheapest dcCheapest pmCheapest anCheapest cdCheapest ctCheapest), slCheapest⟩)
    (cCheapest_ : PySem.W.codeIn K cdCheapest "cheapest" = true)
    (kCheapest : PySem.W.keepIn K (.ref fCheapest) = true)
    (aPaint : PySem.W.nsIn K mainGlobals "cheapest_paint" = some (some (.ref fPaint)))
    (lPaint : K.lookup fPaint = some ⟨ocPaint, odPaint, .func (PySem.W.fnOf "cheapest_paint" "cheapest_paint" (defArgs sPaint) (defBody sPaint) (defScope sPaint) .none kVPaint dcPaint pmPaint anPaint cdPaint ctPaint), slPaint⟩)
    (cPaint_ : PySem.W.codeIn K cdPaint "cheapest_paint" = true)
    (kPaint : PySem.W.keepIn K (.ref fPaint) = true)
    (aFewest : PySem.W.nsIn K mainGlobals "fewest" = some (some (.ref fFewest)))
    (lFewest : K.lookup fFewest = some ⟨ocFewest, odFewest, .func (PySem.W.fnOf "fewest" "fewest" (defArgs sFewest) (defBody sFewest) (defScope sFewest) .none kVFewest dcFewest pmFewest anFewest cdFewest ctFewest), slFewest⟩)
    (cFewest_ : PySem.W.codeIn K cdFewest "fewest" = true)
    (kFewest : PySem.W.keepIn K (.ref fFewest) = true)
    (aPainted : PySem.W.nsIn K mainGlobals "fewest_painted" = some (some (.ref fPainted)))
    (lPainted : K.lookup fPainted = some ⟨ocPainted, odPainted, .func (PySem.W.fnOf "fewest_painted" "fewest_painted" (defArgs sPainted) (defBody sPainted) (defScope sPainted) .none kVPainted dcPainted pmPainted anPainted cdPainted ctPainted), slPainted⟩)
    (cPainted_ : PySem.W.codeIn K cdPainted "fewest_painted" = true)
    (kPainted : PySem.W.keepIn K (.ref fPainted) = true)
    (aTaken : PySem.W.nsIn K mainGlobals "_law_taken" = some (some (.ref fTaken)))
    (lTaken : K.lookup fTaken = some ⟨ocTaken, odTaken, .func (PySem.W.fnOf "_law_taken" "_law_taken" (defArgs sTaken) (defBody sTaken) (defScope sTaken) .none kVTaken dcTaken pmTaken anTaken cdTaken ctTaken), slTaken⟩)
    (cTaken_ : PySem.W.codeIn K cdTaken "_law_taken" = true)
    (kTaken : PySem.W.keepIn K (.ref fTaken) = true)
    (aPick : PySem.W.nsIn K mainGlobals "_law_pick" = some (some (.ref fPick)))
    (lPick : K.lookup fPick = some ⟨ocPick, odPick, .func (PySem.W.fnOf "_law_pick" "_law_pick" (defArgs sPick) (defBody sPick) (defScope sPick) .none kVPick dcPick pmPick anPick cdPick ctPick), slPick⟩)
    (cPick_ : PySem.W.codeIn K cdPick "_law_pick" = true)
    (kPick : PySem.W.keepIn K (.ref fPick) = true)
    (aSmall : PySem.W.nsIn K mainGlobals "_law_small" = some (some (.ref fSmall)))
    (lSmall : K.lookup fSmall = some ⟨ocSmall, odSmall, .func (PySem.W.fnOf "_law_small" "_law_small" (defArgs sSmall) (defBody sSmall) (defScope sSmall) .none kVSmall dcSmall pmSmall anSmall cdSmall ctSmall), slSmall⟩)
    (cSmall_ : PySem.W.codeIn K cdSmall "_law_small" = true)
    (kSmall : PySem.W.keepIn K (.ref fSmall) = true)
    (aWish : PySem.W.nsIn K mainGlobals "_law_wish" = some (some (.ref fWish)))
    (lWish : K.lookup fWish = some ⟨ocWish, odWish, .func (PySem.W.fnOf "_law_wish" "_law_wish" (defArgs sWish) (defBody sWish) (defScope sWish) .none kVWish dcWish pmWish anWish cdWish ctWish), slWish⟩)
    (cWish_ : PySem.W.codeIn K cdWish "_law_wish" = true)
    (kWish : PySem.W.keepIn K (.ref fWish) = true)
    (aRepaints : PySem.W.nsIn K mainGlobals "_law_repaints" = some (some (.ref fRepaints)))
    (lRepaints : K.lookup fRepaints = some ⟨ocRepaints, odRepaints, .func (PySem.W.fnOf "_law_repaints" "_law_repaints" (defArgs sRepaints) (defBody sRepaints) (defScope sRepaints) .none kVRepaints dcRepaints pmRepaints anRepaints cdRepaints ctRepaints), slRepaints⟩)
    (cRepaints_ : PySem.W.codeIn K cdRepaints "_law_repaints" = true)
    (kRepaints : PySem.W.keepIn K (.ref fRepaints) = true)
    (aFits : PySem.W.nsIn K mainGlobals "_law_fits_wish" = some (some (.ref fFits)))
    (lFits : K.lookup fFits = some ⟨ocFits, odFits, .func (PySem.W.fnOf "_law_fits_wish" "_law_fits_wish" (defArgs sFits) (defBody sFits) (defScope sFits) .none kVFits dcFits pmFits anFits cdFits ctFits), slFits⟩)
    (cFits_ : PySem.W.codeIn K cdFits "_law_fits_wish" = true)
    (kFits : PySem.W.keepIn K (.ref fFits) = true)
    (aHeld : PySem.W.nsIn K mainGlobals "_law_held" = some (some (.ref fHeld)))
    (lHeld : K.lookup fHeld = some ⟨ocHeld, odHeld, .func (PySem.W.fnOf "_law_held" "_law_held" (defArgs sHeld) (defBody sHeld) (defScope sHeld) .none kVHeld dcHeld pmHeld anHeld cdHeld ctHeld), slHeld⟩)
    (cHeld_ : PySem.W.codeIn K cdHeld "_law_held" = true)
    (kHeld : PySem.W.keepIn K (.ref fHeld) = true)
    (aReady : PySem.W.nsIn K mainGlobals "_law_ready" = some (some (.ref fReady)))
    (lReady : K.lookup fReady = some ⟨ocReady, odReady, .func (PySem.W.fnOf "_law_ready" "_law_ready" (defArgs sReady) (defBody sReady) (defScope sReady) .none kVReady dcReady pmReady anReady cdReady ctReady), slReady⟩)
    (cReady_ : PySem.W.codeIn K cdReady "_law_ready" = true)
    (kReady : PySem.W.keepIn K (.ref fReady) = true)
    (aStep : PySem.W.nsIn K mainGlobals "_law_step" = some (some (.ref fStep)))
    (lStep : K.lookup fStep = some ⟨ocStep, odStep, .func (PySem.W.fnOf "_law_step" "_law_step" (defArgs sStep) (defBody sStep) (defScope sStep) .none kVStep dcStep pmStep anStep cdStep ctStep), slStep⟩)
    (cStep_ : PySem.W.codeIn K cdStep "_law_step" = true)
    (kStep : PySem.W.keepIn K (.ref fStep) = true)
    (aRun : PySem.W.nsIn K mainGlobals "_law_run" = some (some (.ref fRun)))
    (lRun : K.lookup fRun = some ⟨ocRun, odRun, .func (PySem.W.fnOf "_law_run" "_law_run" (defArgs sRun) (defBody sRun) (defScope sRun) .none kVRun dcRun pmRun anRun cdRun ctRun), slRun⟩)
    (cRun_ : PySem.W.codeIn K cdRun "_law_run" = true)
    (kRun : PySem.W.keepIn K (.ref fRun) = true)
    (aRest : PySem.W.nsIn K mainGlobals "_law_rest" = some (some (.ref fRest)))
    (lRest : K.lookup fRest = some ⟨ocRest, odRest, .func (PySem.W.fnOf "_law_rest" "_law_rest" (defArgs sRest) (defBody sRest) (defScope sRest) .none kVRest dcRest pmRest anRest cdRest ctRest), slRest⟩)
    (cRest_ : PySem.W.codeIn K cdRest "_law_rest" = true)
    (kRest : PySem.W.keepIn K (.ref fRest) = true)
    (aAlike : PySem.W.nsIn K mainGlobals "_law_alike" = some (some (.ref fAlike)))
    (lAlike : K.lookup fAlike = some ⟨ocAlike, odAlike, .func (PySem.W.fnOf "_law_alike" "_law_alike" (defArgs sAlike) (defBody sAlike) (defScope sAlike) .none kVAlike dcAlike pmAlike anAlike cdAlike ctAlike), slAlike⟩)
    (cAlike_ : PySem.W.codeIn K cdAlike "_law_alike" = true)
    (kAlike : PySem.W.keepIn K (.ref fAlike) = true)
    (aLaw : PySem.W.nsIn K mainGlobals "law" = some (some (.ref fLaw)))
    (lLaw : K.lookup fLaw = some ⟨ocLaw, odLaw, .func (PySem.W.fnOf "law" "law" (defArgs sLaw) (defBody sLaw) (defScope sLaw) .none kVLaw dcLaw pmLaw anLaw cdLaw ctLaw), slLaw⟩)
    (cLaw_ : PySem.W.codeIn K cdLaw "law" = true)
    (kLaw : PySem.W.keepIn K (.ref fLaw) = true)
    : ∃ fd : FuncData, (∀ (s : Shared) (v : Value), BindsTo s fd ⟨[v], []⟩ [("_law_script", v)]) ∧ ∀ base : Heap, K.In base → base.Ns mainGlobals mg → FnOk l.prog w K mg base CX0 10 fa fd ["_law_script"] (spLaw K) := by
  have e := hfa.symm.trans (PySem.W.mg_of X G aLaw)
  cases e
  have T : Txt K mg CC CT := ⟨⟨pgCC, hdCC, poCC, saCC⟩, ⟨pgCT, hdCT, poCT, saCT⟩, n_many, n_is_ring, n_held, n_costs, n_goals, n_longest, n_sums, n_last, PySem.W.mg_none_of X G zInst, PySem.W.mg_none_of X G zInt, PySem.W.mg_none_of X G zBool, PySem.W.mg_none_of X G zTuple, PySem.W.mg_none_of X G zLen, PySem.W.mg_none_of X G zEnum, PySem.W.mg_none_of X G zList, PySem.W.mg_none_of X G zSorted, PySem.W.mg_none_of X G zSet, PySem.W.mg_none_of X G zRange, PySem.W.mg_none_of X G zMin, PySem.W.mg_none_of X G zStr, PySem.W.mg_none_of X G zZip, PySem.W.mg_none_of X G zDict, PySem.W.mg_none_of X G zSum, ⟨_, PySem.W.mg_of X G cCells⟩, ⟨_, PySem.W.mg_of X G cColour⟩, ⟨_, PySem.W.mg_of X G cRing⟩, ⟨_, PySem.W.mg_of X G cColours⟩, ⟨_, PySem.W.mg_of X G cPrice⟩⟩
  have FIsIn := fun_mk (st := sIsIn) lIsIn cIsIn_ kIsIn
  have bIsIn := FIsIn.binds (ps := ["value", "least", "most"]) fun _ _ _ _ _ _ us hl => match us, hl with | [_, _, _], _ => rfl
  have FNeedLine := fun_mk (st := sNeedLine) lNeedLine cNeedLine_ kNeedLine
  have bNeedLine := FNeedLine.binds (ps := ["line"]) fun _ _ _ _ _ _ us hl => match us, hl with | [_], _ => rfl
  have FIsCells := fun_mk (st := sIsCells) lIsCells cIsCells_ kIsCells
  have bIsCells := FIsCells.binds (ps := ["many", "value"]) fun _ _ _ _ _ _ us hl => match us, hl with | [_, _], _ => rfl
  have FHeldIn := fun_mk (st := sHeldIn) lHeldIn cHeldIn_ kHeldIn
  have bHeldIn := FHeldIn.binds (ps := ["line"]) fun _ _ _ _ _ _ us hl => match us, hl with | [_], _ => rfl
  have FNeedCol := fun_mk (st := sNeedCol) lNeedCol cNeedCol_ kNeedCol
  have bNeedCol := FNeedCol.binds (ps := ["colours"]) fun _ _ _ _ _ _ us hl => match us, hl with | [_], _ => rfl
  have FNoPrice := fun_mk (st := sNoPrice) lNoPrice cNoPrice_ kNoPrice
  have bNoPrice := FNoPrice.binds (ps := ["self"]) fun _ _ _ _ _ _ us hl => match us, hl with | [_], _ => rfl
  have FMorePrice := fun_mk (st := sMorePrice) lMorePrice cMorePrice_ kMorePrice
  have bMorePrice := FMorePrice.binds (ps := ["self", "total", "price"]) fun _ _ _ _ _ _ us hl => match us, hl with | [_, _, _], _ => rfl
  have FBegin := fun_mk (st := sBegin) lBegin cBegin_ kBegin
  have bBegin := FBegin.binds (ps := ["self", "price", "colour"]) fun _ _ _ _ _ _ us hl => match us, hl with | [_, _, _], _ => rfl
  have FExtend := fun_mk (st := sExtend) lExtend cExtend_ kExtend
  have bExtend := FExtend.binds (ps := ["self", "value", "price", "colours"]) fun _ _ _ _ _ _ us hl => match us, hl with | [_, _, _, _], _ => rfl
  have FJoin := fun_mk (st := sJoin) lJoin cJoin_ kJoin
  have bJoin := FJoin.binds (ps := ["self", "one", "other"]) fun _ _ _ _ _ _ us hl => match us, hl with | [_, _, _], _ => rfl
  have FClose := fun_mk (st := sClose) lClose cClose_ kClose
  have bClose := FClose.binds (ps := ["self", "value", "price", "begin"]) fun _ _ _ _ _ _ us hl => match us, hl with | [_, _, _, _], _ => rfl
  have FInit := fun_mk (st := sInit) lInit cInit_ kInit
  have bInit := FInit.binds (ps := ["self", "frame", "costs", "goals", "longest", "sums"]) fun _ _ _ _ _ _ us hl => match us, hl with | [_, _, _, _, _, _], _ => rfl
  have FSuits := fun_mk (st := sSuits) lSuits cSuits_ kSuits
  have bSuits := FSuits.binds (ps := ["self", "cell", "colour"]) fun _ _ _ _ _ _ us hl => match us, hl with | [_, _, _], _ => rfl
  have FStill := fun_mk (st := sStill) lStill cStill_ kStill
  have bStill := FStill.binds (ps := ["self", "cell", "before", "own", "behind"]) fun _ _ _ _ _ _ us hl => match us, hl with | [_, _, _, _, _], _ => rfl
  have FPut := fun_mk (st := sPut) lPut cPut_ kPut
  have bPut := FPut.binds (ps := ["self", "table", "key", "value"]) fun _ _ _ _ _ _ us hl => match us, hl with | [_, _, _, _], _ => rfl
  have FStretch := fun_mk (st := sStretch) lStretch cStretch_ kStretch
  have bStretch := FStretch.binds (ps := ["self", "begin", "place", "length", "own", "other"]) fun _ _ _ _ _ _ us hl => match us, hl with | [_, _, _, _, _, _], _ => rfl
  have FFurther := fun_mk (st := sFurther) lFurther cFurther_ kFurther
  have bFurther := FFurther.binds (ps := ["self", "begin", "place", "key", "value", "first"]) fun _ _ _ _ _ _ us hl => match us, hl with | [_, _, _, _, _, _], _ => rfl
  have FRow := fun_mk (st := sRow) lRow cRow_ kRow
  have bRow := FRow.binds (ps := ["self"]) fun _ _ _ _ _ _ us hl => match us, hl with | [_], _ => rfl
  have FJoined := fun_mk (st := sJoined) lJoined cJoined_ kJoined
  have bJoined := FJoined.binds (ps := ["self", "some"]) fun _ _ _ _ _ _ us hl => match us, hl with | [_, _], _ => rfl
  have FAround := fun_mk (st := sAround) lAround cAround_ kAround
  have bAround := FAround.binds (ps := ["self", "begin", "own", "first"]) fun _ _ _ _ _ _ us hl => match us, hl with | [_, _, _, _], _ => rfl
  have FRing := fun_mk (st := sRing) lRing cRing_ kRing
  have bRing := FRing.binds (ps := ["self"]) fun _ _ _ _ _ _ us hl => match us, hl with | [_], _ => rfl
  have FValue := fun_mk (st := sValue) lValue cValue_ kValue
  have bValue := FValue.binds (ps := ["self"]) fun _ _ _ _ _ _ us hl => match us, hl with | [_], _ => rfl
  have FFrame := fun_mk (st := sFrame) lFrame cFrame_ kFrame
  have bFrame := FFrame.binds (ps := ["line"]) fun _ _ _ _ _ _ us hl => match us, hl with | [_], _ => rfl
  have FIsWish := fun_mk (st := sIsWish) lIsWish cIsWish_ kIsWish
  have bIsWish := FIsWish.binds (ps := ["many", "value"]) fun _ _ _ _ _ _ us hl => match us, hl with | [_, _], _ => rfl
  have FNeedWish := fun_mk (st := sNeedWish) lNeedWish cNeedWish_ kNeedWish
  have bNeedWish := FNeedWish.binds (ps := ["line", "wish"]) fun _ _ _ _ _ _ us hl => match us, hl with | [_, _], _ => rfl
  have FNeedPaint := fun_mk (st := sNeedPaint) lNeedPaint cNeedPaint_ kNeedPaint
  have bNeedPaint := FNeedPaint.binds (ps := ["line", "wish", "prices", "colours"]) fun _ _ _ _ _ _ us hl => match us, hl with | [_, _, _, _], _ => rfl
  have FCosts := fun_mk (st := sCosts) lCosts cCosts_ kCosts
  have bCosts := FCosts.binds (ps := ["line", "prices", "colours"]) fun _ _ _ _ _ _ us hl => match us, hl with | [_, _, _], _ => rfl
  have FGoals := fun_mk (st := sGoals) lGoals cGoals_ kGoals
  have bGoals := FGoals.binds (ps := ["wish"]) fun _ _ _ _ _ _ us hl => match us, hl with | [_], _ => rfl
  have FCheapest := fun_mk (st := sCheapest) lCheapest cCheapest_ kCheapest
  have bCheapest := FCheapest.binds (ps := ["line", "goals", "prices", "colours"]) fun _ _ _ _ _ _ us hl => match us, hl with | [_, _, _, _], _ => rfl
  have FPaint := fun_mk (st := sPaint) lPaint cPaint_ kPaint
  have bPaint := FPaint.binds (ps := ["line", "wish", "prices", "colours"]) fun _ _ _ _ _ _ us hl => match us, hl with | [_, _, _, _], _ => rfl
  have FFewest := fun_mk (st := sFewest) lFewest cFewest_ kFewest
  have bFewest := FFewest.binds (ps := ["line", "goals", "colours"]) fun _ _ _ _ _ _ us hl => match us, hl with | [_, _, _], _ => rfl
  have FPainted := fun_mk (st := sPainted) lPainted cPainted_ kPainted
  have bPainted := FPainted.binds (ps := ["line", "wish", "colours"]) fun _ _ _ _ _ _ us hl => match us, hl with | [_, _, _], _ => rfl
  have FTaken := fun_mk (st := sTaken) lTaken cTaken_ kTaken
  have bTaken := FTaken.binds (ps := ["_law_row", "_law_many"]) fun _ _ _ _ _ _ us hl => match us, hl with | [_, _], _ => rfl
  have FPick := fun_mk (st := sPick) lPick cPick_ kPick
  have bPick := FPick.binds (ps := ["_law_row", "_law_things"]) fun _ _ _ _ _ _ us hl => match us, hl with | [_, _], _ => rfl
  have FSmall := fun_mk (st := sSmall) lSmall cSmall_ kSmall
  have bSmall := FSmall.binds (ps := ["_law_row"]) fun _ _ _ _ _ _ us hl => match us, hl with | [_], _ => rfl
  have FWish := fun_mk (st := sWish) lWish cWish_ kWish
  have bWish := FWish.binds (ps := ["_law_row", "_law_many", "_law_colours"]) fun _ _ _ _ _ _ us hl => match us, hl with | [_, _, _], _ => rfl
  have FRepaints := fun_mk (st := sRepaints) lRepaints cRepaints_ kRepaints
  have bRepaints := FRepaints.binds (ps := ["_law_line", "_law_colours"]) fun _ _ _ _ _ _ us hl => match us, hl with | [_, _], _ => rfl
  have FFits := fun_mk (st := sFits) lFits cFits_ kFits
  have bFits := FFits.binds (ps := ["_law_cells", "_law_wish_here"]) fun _ _ _ _ _ _ us hl => match us, hl with | [_, _], _ => rfl
  have FHeld := fun_mk (st := sHeld) lHeld cHeld_ kHeld
  have bHeld := FHeld.binds (ps := ["_law_line"]) fun _ _ _ _ _ _ us hl => match us, hl with | [_], _ => rfl
  have FReady := fun_mk (st := sReady) lReady cReady_ kReady
  have bReady := FReady.binds (ps := ["_law_line"]) fun _ _ _ _ _ _ us hl => match us, hl with | [_], _ => rfl
  have FStep := fun_mk (st := sStep) lStep cStep_ kStep
  have bStep := FStep.binds (ps := ["_law_line"]) fun _ _ _ _ _ _ us hl => match us, hl with | [_], _ => rfl
  have FRun := fun_mk (st := sRun) lRun cRun_ kRun
  have bRun := FRun.binds (ps := ["_law_line"]) fun _ _ _ _ _ _ us hl => match us, hl with | [_], _ => rfl
  have FRest := fun_mk (st := sRest) lRest cRest_ kRest
  have bRest := FRest.binds (ps := ["_law_line"]) fun _ _ _ _ _ _ us hl => match us, hl with | [_], _ => rfl
  have FAlike := fun_mk (st := sAlike) lAlike cAlike_ kAlike
  have bAlike := FAlike.binds (ps := ["_law_found", "_law_due"]) fun _ _ _ _ _ _ us hl => match us, hl with | [_, _], _ => rfl
  have FLaw := fun_mk (st := sLaw) lLaw cLaw_ kLaw
  refine ⟨PySem.W.fnOf "law" "law" (defArgs sLaw) (defBody sLaw) (defScope sLaw) .none kVLaw dcLaw pmLaw anLaw cdLaw ctLaw, fun s v => .of_eq rfl, fun base _ _ => ?_⟩
  have DIsIn : GFn l.prog w K mg base 1 "is_in" ["value", "least", "most"] spIsIn := ⟨_, _, ok_is_in FIsIn T, PySem.W.mg_of X G aIsIn, kIsIn, bIsIn⟩
  have DNeedCol : GFn l.prog w K mg base 2 "need_colours" ["colours"] spNeedCol := ⟨_, _, ok_need_colours FNeedCol T DIsIn, PySem.W.mg_of X G aNeedCol, kNeedCol, bNeedCol⟩
  have DNoPrice : MFn l.prog w K mg base CC 1 "no_price" ["self"] spNoPrice := ⟨_, _, ok_no_price FNoPrice, ⟨aNoPrice, iNoPrice, kNoPrice⟩, bNoPrice⟩
  have DMorePrice : MFn l.prog w K mg base CC 1 "more_price" ["self", "total", "price"] spMorePrice := ⟨_, _, ok_more_price FMorePrice, ⟨aMorePrice, iMorePrice, kMorePrice⟩, bMorePrice⟩
  have DBegin : MFn l.prog w K mg base CC 1 "begin" ["self", "price", "colour"] spBegin := ⟨_, _, ok_begin FBegin, ⟨aBegin, iBegin, kBegin⟩, bBegin⟩
  have DExtend : MFn l.prog w K mg base CC 1 "extend" ["self", "value", "price", "colours"] (spExtend K) := ⟨_, _, ok_extend FExtend T, ⟨aExtend, iExtend, kExtend⟩, bExtend⟩
  have DJoin : MFn l.prog w K mg base CC 1 "join" ["self", "one", "other"] spJoin := ⟨_, _, ok_join FJoin T, ⟨aJoin, iJoin, kJoin⟩, bJoin⟩
  have DClose : MFn l.prog w K mg base CC 1 "close" ["self", "value", "price", "begin"] spClose := ⟨_, _, ok_close FClose T, ⟨aClose, iClose, kClose⟩, bClose⟩
  have M : Meths l.prog w K mg base CC := ⟨DNoPrice, DMorePrice, DBegin, DExtend, DJoin, DClose⟩
  have DSuits : MFn l.prog w K mg base CT 1 "suits" ["self", "cell", "colour"] (spSuits CC CT) := ⟨_, _, ok_suits FSuits T, ⟨aSuits, iSuits, kSuits⟩, bSuits⟩
  have DStill : MFn l.prog w K mg base CT 1 "is_still" ["self", "cell", "before", "own", "behind"] (spStill CC CT) := ⟨_, _, ok_is_still FStill T, ⟨aStill, iStill, kStill⟩, bStill⟩
  have DStretch : MFn l.prog w K mg base CT 2 "stretch" ["self", "begin", "place", "length", "own", "other"] (spStretch CC CT) := ⟨_, _, ok_stretch FStretch T M DSuits, ⟨aStretch, iStretch, kStretch⟩, bStretch⟩
  have DFurther : MFn l.prog w K mg base CT 3 "further" ["self", "begin", "place", "key", "value", "first"] (spFurther CC CT) := ⟨_, _, ok_further FFurther T M DSuits DStill DStretch, ⟨aFurther, iFurther, kFurther⟩, bFurther⟩
  have DPut : MFn l.prog w K mg base CT 2 "put" ["self", "table", "key", "value"] (spPut l.prog w CC CT) := ⟨_, _, ok_put FPut T M, ⟨aPut, iPut, kPut⟩, bPut⟩
  have DJoined : MFn l.prog w K mg base CT 2 "joined" ["self", "some"] (spJoined CC CT) := ⟨_, _, ok_joined FJoined T M, ⟨aJoined, iJoined, kJoined⟩, bJoined⟩
  have MT : MethT l.prog w K mg base CC CT := ⟨DSuits, DStill, DPut, DFurther, DJoined⟩
  have DRow : MFn l.prog w K mg base CT 4 "row" ["self"] (spRow CC CT) := ⟨_, _, ok_row FRow T M MT, ⟨aRow, iRow, kRow⟩, bRow⟩
  have DAround : MFn l.prog w K mg base CT 4 "around" ["self", "begin", "own", "first"] (spAround CC CT) := ⟨_, _, ok_around FAround T M MT, ⟨aAround, iAround, kAround⟩, bAround⟩
  have DRing : MFn l.prog w K mg base CT 5 "ring" ["self"] (spRing CC CT) := ⟨_, _, ok_ring FRing T DAround DJoined, ⟨aRing, iRing, kRing⟩, bRing⟩
  have DValue : MFn l.prog w K mg base CT 6 "value" ["self"] (spValue CC CT) := ⟨_, _, ok_value FValue T DRow DRing, ⟨aValue, iValue, kValue⟩, bValue⟩
  have DIsCells : GFn l.prog w K mg base 2 "is_cells" ["many", "value"] spIsCells := ⟨_, _, ok_is_cells FIsCells T DIsIn, PySem.W.mg_of X G aIsCells, kIsCells, bIsCells⟩
  have DNeedLine : GFn l.prog w K mg base 3 "need_line" ["line"] spNeedLine := ⟨_, _, ok_need_line FNeedLine T DIsIn DIsCells, PySem.W.mg_of X G aNeedLine, kNeedLine, bNeedLine⟩
  have DHeldIn : GFn l.prog w K mg base 1 "held_in" ["line"] spHeldIn := ⟨_, _, ok_held_in FHeldIn T, PySem.W.mg_of X G aHeldIn, kHeldIn, bHeldIn⟩
  have DFrame : GFn l.prog w K mg base 1 "frame_of" ["line"] spFrame := ⟨_, _, ok_frame_of FFrame T, PySem.W.mg_of X G aFrame, kFrame, bFrame⟩
  have DIsWish : GFn l.prog w K mg base 2 "is_wish" ["many", "value"] spIsWish := ⟨_, _, ok_is_wish FIsWish T DIsIn, PySem.W.mg_of X G aIsWish, kIsWish, bIsWish⟩
  have DNeedWish : GFn l.prog w K mg base 4 "need_wish" ["line", "wish"] spNeedWish := ⟨_, _, ok_need_wish FNeedWish T DNeedLine DIsWish, PySem.W.mg_of X G aNeedWish, kNeedWish, bNeedWish⟩
  have DNeedPaint : GFn l.prog w K mg base 5 "need_paint" ["line", "wish", "prices", "colours"] spNeedPaint := ⟨_, _, ok_need_paint FNeedPaint T DIsIn DNeedWish DNeedCol, PySem.W.mg_of X G aNeedPaint, kNeedPaint, bNeedPaint⟩
  have DCosts : GFn l.prog w K mg base 1 "costs_of" ["line", "prices", "colours"] spCosts := ⟨_, _, ok_costs_of FCosts T, PySem.W.mg_of X G aCosts, kCosts, bCosts⟩
  have DGoals : GFn l.prog w K mg base 1 "goals_of" ["wish"] spGoals := ⟨_, _, ok_goals_of FGoals T, PySem.W.mg_of X G aGoals, kGoals, bGoals⟩
  have DCheapest : GFn l.prog w K mg base 7 "cheapest" ["line", "goals", "prices", "colours"] spCheapest := ⟨_, _, ok_cheapest FCheapest T DFrame DCosts ⟨_, _, ok_init FInit T DHeldIn, ⟨mkCT, aInit, iInit, kcCT⟩, bInit, PySem.W.mg_of X G gCT⟩ ⟨mkCC, iCC, kcCC⟩ (PySem.W.mg_of X G gCC) DValue, PySem.W.mg_of X G aCheapest, kCheapest, bCheapest⟩
  have DPaint : GFn l.prog w K mg base 8 "cheapest_paint" ["line", "wish", "prices", "colours"] spPaint := ⟨_, _, ok_cheapest_paint FPaint T DNeedPaint DGoals DCheapest, PySem.W.mg_of X G aPaint, kPaint, bPaint⟩
  have DFewest : GFn l.prog w K mg base 8 "fewest" ["line", "goals", "colours"] spFewest := ⟨_, _, ok_fewest FFewest T DCheapest, PySem.W.mg_of X G aFewest, kFewest, bFewest⟩
  have DPainted : GFn l.prog w K mg base 9 "fewest_painted" ["line", "wish", "colours"] spPainted := ⟨_, _, ok_fewest_painted FPainted T DNeedWish DNeedCol DGoals DFewest, PySem.W.mg_of X G aPainted, kPainted, bPainted⟩
  have DTaken : GFn l.prog w K mg base 1 "_law_taken" ["_law_row", "_law_many"] (spTaken K) := ⟨_, _, ok_taken FTaken T, PySem.W.mg_of X G aTaken, kTaken, bTaken⟩
  have DPick : GFn l.prog w K mg base 2 "_law_pick" ["_law_row", "_law_things"] (spPick K) := ⟨_, _, ok_pick FPick T DTaken, PySem.W.mg_of X G aPick, kPick, bPick⟩
  have DSmall : GFn l.prog w K mg base 3 "_law_small" ["_law_row"] (spSmall K) := ⟨_, _, ok_small FSmall T DTaken DPick, PySem.W.mg_of X G aSmall, kSmall, bSmall⟩
  have DWish : GFn l.prog w K mg base 3 "_law_wish" ["_law_row", "_law_many", "_law_colours"] (spWish K) := ⟨_, _, ok_wish FWish T DTaken DPick, PySem.W.mg_of X G aWish, kWish, bWish⟩
  have DRepaints : GFn l.prog w K mg base 1 "_law_repaints" ["_law_line", "_law_colours"] spRepaints := ⟨_, _, ok_repaints FRepaints T, PySem.W.mg_of X G aRepaints, kRepaints, bRepaints⟩
  have DFits : GFn l.prog w K mg base 1 "_law_fits_wish" ["_law_cells", "_law_wish_here"] spFits := ⟨_, _, ok_fits FFits T, PySem.W.mg_of X G aFits, kFits, bFits⟩
  have DHeld : GFn l.prog w K mg base 1 "_law_held" ["_law_line"] spHeld := ⟨_, _, ok_held FHeld T, PySem.W.mg_of X G aHeld, kHeld, bHeld⟩
  have DReady : GFn l.prog w K mg base 2 "_law_ready" ["_law_line"] spReady := ⟨_, _, ok_ready FReady T DHeld, PySem.W.mg_of X G aReady, kReady, bReady⟩
  have DStep : GFn l.prog w K mg base 3 "_law_step" ["_law_line"] spStep := ⟨_, _, ok_step FStep T DReady, PySem.W.mg_of X G aStep, kStep, bStep⟩
  have DRun : GFn l.prog w K mg base 4 "_law_run" ["_law_line"] spRun := ⟨_, _, ok_run FRun T DReady DStep, PySem.W.mg_of X G aRun, kRun, bRun⟩
  have DRest : GFn l.prog w K mg base 5 "_law_rest" ["_law_line"] spRest := ⟨_, _, ok_rest FRest T DRun, PySem.W.mg_of X G aRest, kRest, bRest⟩
  have DAlike0 : GFn l.prog w K mg base 1 "_law_alike" ["_law_found", "_law_due"] (spAlike 0) := ⟨_, _, ok_alike0 FAlike T, PySem.W.mg_of X G aAlike, kAlike, bAlike⟩
  have DAlike1 : GFn l.prog w K mg base 2 "_law_alike" ["_law_found", "_law_due"] (spAlike 1) := ⟨_, _, ok_alike FAlike T DAlike0, PySem.W.mg_of X G aAlike, kAlike, bAlike⟩
  have DAlike : GFn l.prog w K mg base 3 "_law_alike" ["_law_found", "_law_due"] (spAlike 2) := ⟨_, _, ok_alike FAlike T DAlike1, PySem.W.mg_of X G aAlike, kAlike, bAlike⟩
  exact ok_law FLaw T ⟨DTaken, DPick, DSmall, DWish, DRepaints, DFits, DRest, DAlike, DPaint, DPainted⟩
theorem walk {l : PySem.W.OpenLaw} {q : Program} {loose : List Str} {XP : (Str → Option Value) → Heap → Prop} {YP : World → Heap → Prop} {d : DefRec} {K : Params → PySem.W.Frag} (hn : l.most = some 63) (hdf : d.params.defaults = [])
    (hY : ∀ (w : World) (h : Heap), YP w h → (K w.params).In h)
    (F : ∀ (w : World) (mg : Str → Option Value) (fa : Addr) (h : Heap), (K w.params).In h → h.Ns mainGlobals mg → mg d.name = some (.ref fa) →
      ∃ fd : FuncData, (∀ (s : Shared) (u : Value), BindsTo s fd ⟨[u], []⟩ [("_law_script", u)]) ∧ ∀ base : Heap, (K w.params).In base → base.Ns mainGlobals mg → FnOk l.prog w (K w.params) mg base CX0 10 fa fd ["_law_script"] (spLaw (K w.params))) :
    PySem.W.WalkO q loose XP YP l.row.toRowW d [] (fun f vs => PySem.call f vs) :=
  L2.walk_of (n := 63) (k := 10) (x := "_law_script") (CX := fun _ => CX0) (sp := fun w => spLaw (K w.params)) hn (by decide) hdf ⟨rfl, by decide, by decide⟩ hY F (fun _ _ a ns hl _ hS => ⟨a, ns, rfl, hS, hl, fun _ => rfl⟩) fun _ _ _ _ _ z => z
end Flk

set_option Elab.async false
set_option maxRecDepth 100000
open PySem PySem.W PyProof.Rows in
set_option maxRecDepth 100000 in
set_option maxHeartbeats 0 in
theorem PySem.Challenge.cw_flankturns_k26_whole_cheapest_paint_holds : PySem.Challenge.rw_flankturns_k26_whole_cheapest_paint.Holds := by
  w_on; o_law; k_head; (case hw => w_witness2)
  k_fill
  refine Flk.walk (l := PySem.Challenge.rw_flankturns_k26_whole_cheapest_paint) rfl rfl (fun w h Y => PySem.W.kIn_of Y) ?F
  case F =>
    intro w mg fa h KX G hmg
    refine' Flk.all_mk KX G hmg ?gCC ?pgCC ?hdCC ?poCC ?saCC ?mkCC ?kcCC ?gCT ?pgCT ?hdCT ?poCT ?saCT ?mkCT ?kcCT ?iCC ?n_many ?n_is_ring ?n_held ?n_costs ?n_goals ?n_longest ?n_sums ?n_last ?zInst ?zInt ?zBool ?zTuple ?zLen ?zEnum ?zList ?zSorted ?zSet ?zRange ?zMin ?zStr ?zZip ?zDict ?zSum ?cCells ?cColour ?cRing ?cColours ?cPrice ?aIsIn ?lIsIn ?cIsIn_ ?kIsIn ?aNeedLine ?lNeedLine ?cNeedLine_ ?kNeedLine ?aIsCells ?lIsCells ?cIsCells_ ?kIsCells ?aHeldIn ?lHeldIn ?cHeldIn_ ?kHeldIn ?aNeedCol ?lNeedCol ?cNeedCol_ ?kNeedCol ?aNoPrice ?iNoPrice ?lNoPrice ?cNoPrice_ ?kNoPrice ?aMorePrice ?iMorePrice ?lMorePrice ?cMorePrice_ ?kMorePrice ?aBegin ?iBegin ?lBegin ?cBegin_ ?kBegin ?aExtend ?iExtend ?lExtend ?cExtend_ ?kExtend ?aJoin ?iJoin ?lJoin ?cJoin_ ?kJoin ?aClose ?iClose ?lClose ?cClose_ ?kClose ?aInit ?iInit ?lInit ?cInit_ ?kInit ?aSuits ?iSuits ?lSuits ?cSuits_ ?kSuits ?aStill ?iStill ?lStill ?cStill_ ?kStill ?aPut ?iPut ?lPut ?cPut_ ?kPut ?aStretch ?iStretch ?lStretch ?cStretch_ ?kStretch ?aFurther ?iFurther ?lFurther ?cFurther_ ?kFurther ?aRow ?iRow ?lRow ?cRow_ ?kRow ?aJoined ?iJoined ?lJoined ?cJoined_ ?kJoined ?aAround ?iAround ?lAround ?cAround_ ?kAround ?aRing ?iRing ?lRing ?cRing_ ?kRing ?aValue ?iValue ?lValue ?cValue_ ?kValue ?aFrame ?lFrame ?cFrame_ ?kFrame ?aIsWish ?lIsWish ?cIsWish_ ?kIsWish ?aNeedWish ?lNeedWish ?cNeedWish_ ?kNeedWish ?aNeedPaint ?lNeedPaint ?cNeedPaint_ ?kNeedPaint ?aCosts ?lCosts ?cCosts_ ?kCosts ?aGoals ?lGoals ?cGoals_ ?kGoals ?aCheapest ?lCheapest ?cCheapest_ ?kCheapest ?aPaint ?lPaint ?cPaint_ ?kPaint ?aFewest ?lFewest ?cFewest_ ?kFewest ?aPainted ?lPainted ?cPainted_ ?kPainted ?aTaken ?lTaken ?cTaken_ ?kTaken ?aPick ?lPick ?cPick_ ?kPick ?aSmall ?lSmall ?cSmall_ ?kSmall ?aWish ?lWish ?cWish_ ?kWish ?aRepaints ?lRepaints ?cRepaints_ ?kRepaints ?aFits ?lFits ?cFits_ ?kFits ?aHeld ?lHeld ?cHeld_ ?kHeld ?aReady ?lReady ?cReady_ ?kReady ?aStep ?lStep ?cStep_ ?kStep ?aRun ?lRun ?cRun_ ?kRun ?aRest ?lRest ?cRest_ ?kRest ?aAlike ?lAlike ?cAlike_ ?kAlike ?aLaw ?lLaw ?cLaw_ ?kLaw
    (case gCC => k_is)
    (case pgCC => k_is)
    (case hdCC => k_is)
    (case poCC => k_is)
    (case saCC => k_is)
    (case mkCC => k_is)
    (case kcCC => k_is)
    (case gCT => k_is)
    (case pgCT => k_is)
    (case hdCT => k_is)
    (case poCT => k_is)
    (case saCT => k_is)
    (case mkCT => k_is)
    (case kcCT => k_is)
    (case iCC => k_is)
    (case n_many => k_is)
    (case n_is_ring => k_is)
    (case n_held => k_is)
    (case n_costs => k_is)
    (case n_goals => k_is)
    (case n_longest => k_is)
    (case n_sums => k_is)
    (case n_last => k_is)
    (case zInst => k_is)
    (case zInt => k_is)
    (case zBool => k_is)
    (case zTuple => k_is)
    (case zLen => k_is)
    (case zEnum => k_is)
    (case zList => k_is)
    (case zSorted => k_is)
    (case zSet => k_is)
    (case zRange => k_is)
    (case zMin => k_is)
    (case zStr => k_is)
    (case zZip => k_is)
    (case zDict => k_is)
    (case zSum => k_is)
    (case cCells => k_is)
    (case cColour => k_is)
    (case cRing => k_is)
    (case cColours => k_is)
    (case cPrice => k_is)
    (case aIsIn => k_is)
    (case lIsIn => k_is)
    (case cIsIn_ => k_is)
    (case kIsIn => k_is)
    (case aNeedLine => k_is)
    (case lNeedLine => k_is)
    (case cNeedLine_ => k_is)
    (case kNeedLine => k_is)
    (case aIsCells => k_is)
    (case lIsCells => k_is)
    (case cIsCells_ => k_is)
    (case kIsCells => k_is)
    (case aHeldIn => k_is)
    (case lHeldIn => k_is)
    (case cHeldIn_ => k_is)
    (case kHeldIn => k_is)
    (case aNeedCol => k_is)
    (case lNeedCol => k_is)
    (case cNeedCol_ => k_is)
    (case kNeedCol => k_is)
    (case aNoPrice => k_is)
    (case iNoPrice => k_is)
    (case lNoPrice => k_is)
    (case cNoPrice_ => k_is)
    (case kNoPrice => k_is)
    (case aMorePrice => k_is)
    (case iMorePrice => k_is)
    (case lMorePrice => k_is)
    (case cMorePrice_ => k_is)
    (case kMorePrice => k_is)
    (case aBegin => k_is)
    (case iBegin => k_is)
    (case lBegin => k_is)
    (case cBegin_ => k_is)
    (case kBegin => k_is)
    (case aExtend => k_is)
    (case iExtend => k_is)
    (case lExtend => k_is)
    (case cExtend_ => k_is)
    (case kExtend => k_is)
    (case aJoin => k_is)
    (case iJoin => k_is)
    (case lJoin => k_is)
    (case cJoin_ => k_is)
    (case kJoin => k_is)
    (case aClose => k_is)
    (case iClose => k_is)
    (case lClose => k_is)
    (case cClose_ => k_is)
    (case kClose => k_is)
    (case aInit => k_is)
    (case iInit => k_is)
    (case lInit => k_is)
    (case cInit_ => k_is)
    (case kInit => k_is)
    (case aSuits => k_is)
    (case iSuits => k_is)
    (case lSuits => k_is)
    (case cSuits_ => k_is)
    (case kSuits => k_is)
    (case aStill => k_is)
    (case iStill => k_is)
    (case lStill => k_is)
    (case cStill_ => k_is)
    (case kStill => k_is)
    (case aPut => k_is)
    (case iPut => k_is)
    (case lPut => k_is)
    (case cPut_ => k_is)
    (case kPut => k_is)
    (case aStretch => k_is)
    (case iStretch => k_is)
    (case lStretch => k_is)
    (case cStretch_ => k_is)
    (case kStretch => k_is)
    (case aFurther => k_is)
    (case iFurther => k_is)
    (case lFurther => k_is)
    (case cFurther_ => k_is)
    (case kFurther => k_is)
    (case aRow => k_is)
    (case iRow => k_is)
    (case lRow => k_is)
    (case cRow_ => k_is)
    (case kRow => k_is)
    (case aJoined => k_is)
    (case iJoined => k_is)
    (case lJoined => k_is)
    (case cJoined_ => k_is)
    (case kJoined => k_is)
    (case aAround => k_is)
    (case iAround => k_is)
    (case lAround => k_is)
    (case cAround_ => k_is)
    (case kAround => k_is)
    (case aRing => k_is)
    (case iRing => k_is)
    (case lRing => k_is)
    (case cRing_ => k_is)
    (case kRing => k_is)
    (case aValue => k_is)
    (case iValue => k_is)
    (case lValue => k_is)
    (case cValue_ => k_is)
    (case kValue => k_is)
    (case aFrame => k_is)
    (case lFrame => k_is)
    (case cFrame_ => k_is)
    (case kFrame => k_is)
    (case aIsWish => k_is)
    (case lIsWish => k_is)
    (case cIsWish_ => k_is)
    (case kIsWish => k_is)
    (case aNeedWish => k_is)
    (case lNeedWish => k_is)
    (case cNeedWish_ => k_is)
    (case kNeedWish => k_is)
    (case aNeedPaint => k_is)
    (case lNeedPaint => k_is)
    (case cNeedPaint_ => k_is)
    (case kNeedPaint => k_is)
    (case aCosts => k_is)
    (case lCosts => k_is)
    (case cCosts_ => k_is)
    (case kCosts => k_is)
    (case aGoals => k_is)
    (case lGoals => k_is)
    (case cGoals_ => k_is)
    (case kGoals => k_is)
    (case aCheapest => k_is)
    (case lCheapest => k_is)
    (case cCheapest_ => k_is)
    (case kCheapest => k_is)
    (case aPaint => k_is)
    (case lPaint => k_is)
    (case cPaint_ => k_is)
    (case kPaint => k_is)
    (case aFewest => k_is)
    (case lFewest => k_is)
    (case cFewest_ => k_is)
    (case kFewest => k_is)
    (case aPainted => k_is)
    (case lPainted => k_is)
    (case cPainted_ => k_is)
    (case kPainted => k_is)
    (case aTaken => k_is)
    (case lTaken => k_is)
    (case cTaken_ => k_is)
    (case kTaken => k_is)
    (case aPick => k_is)
    (case lPick => k_is)
    (case cPick_ => k_is)
    (case kPick => k_is)
    (case aSmall => k_is)
    (case lSmall => k_is)
    (case cSmall_ => k_is)
    (case kSmall => k_is)
    (case aWish => k_is)
    (case lWish => k_is)
    (case cWish_ => k_is)
    (case kWish => k_is)
    (case aRepaints => k_is)
    (case lRepaints => k_is)
    (case cRepaints_ => k_is)
    (case kRepaints => k_is)
    (case aFits => k_is)
    (case lFits => k_is)
    (case cFits_ => k_is)
    (case kFits => k_is)
    (case aHeld => k_is)
    (case lHeld => k_is)
    (case cHeld_ => k_is)
    (case kHeld => k_is)
    (case aReady => k_is)
    (case lReady => k_is)
    (case cReady_ => k_is)
    (case kReady => k_is)
    (case aStep => k_is)
    (case lStep => k_is)
    (case cStep_ => k_is)
    (case kStep => k_is)
    (case aRun => k_is)
    (case lRun => k_is)
    (case cRun_ => k_is)
    (case kRun => k_is)
    (case aRest => k_is)
    (case lRest => k_is)
    (case cRest_ => k_is)
    (case kRest => k_is)
    (case aAlike => k_is)
    (case lAlike => k_is)
    (case cAlike_ => k_is)
    (case kAlike => k_is)
    (case aLaw => k_is)
    (case lLaw => k_is)
    (case cLaw_ => k_is)
    (case kLaw => k_is)

