import PyProof.Rows.All
import Wide.All
import OpenK.AllK
import Wide.FinOn
import HandS.ForMost
import HandS.TupAny
import HandS.Deep
import HandS.IsInst
import HandS.ExcInit
import HandS.ExcField
import HandS.WrittenGet
import HandS.Zip
import HandS.Codes
import PySem.Challenge.RW_eightcells_k44_least_kept
import KE.GoesNew
import HandS.Walk
import HandS.DictComp
import HandS.TupSets
import HandS.DictTup
import KE.KDictSum
import KE.KDictCopyH
import HandS.ForExc
import PyProof.ReprRoads
import PyProof.Rows.RegFStrParts
import HandS.ExcIs
import KE.KExcIs
import HandS.Ends
section
set_option autoImplicit false
namespace KM
/-! plain Lean: rows of yes and no, tables, the closure under a table -/
abbrev Row := List Bool

/-- the number that bits tell, the first one counting most -/
def num (bs : List Bool) : Nat := bs.foldl (fun n b => 2 * n + b.toNat) 0
/-- what a table makes of bits -/
def app (T : List Bool) (bs : List Bool) : Bool := T.getD (num bs) false
/-- what a table makes of rows of k values, place by place -/
def made (T : List Bool) (k : Nat) (rs : List Row) : Row := (List.range k).map fun p => app T (rs.map fun r => r.getD p false)

theorem made_length (T : List Bool) (k : Nat) (rs : List Row) : (made T k rs).length = k := by simp [made]

/-- the table asks only how many are yes -/
def Sym (m : Nat) (T : List Bool) : Prop := ∃ g : Nat → Bool, ∀ bs : List Bool, bs.length = m → app T bs = g (bs.count true)

theorem Sym.perm {m : Nat} {T : List Bool} (h : Sym m T) {bs cs : List Bool} (hb : bs.length = m) (p : bs.Perm cs) : app T bs = app T cs := by
  obtain ⟨g, hg⟩ := h
  rw [hg bs hb, hg cs (p.length_eq ▸ hb), p.count_eq]

theorem made_perm {m : Nat} {T : List Bool} (h : Sym m T) (k : Nat) {rs qs : List Row} (hr : rs.length = m) (p : rs.Perm qs) : made T k rs = made T k qs := by
  unfold made
  refine List.map_congr_left fun i _ => ?_
  exact h.perm (by simpa using hr) (p.map _)

theorem sym1 (a b : Bool) : Sym 1 [a, b] := by
  refine ⟨fun n => if n = 0 then a else b, fun bs hb => ?_⟩
  match bs, hb with
  | [x], _ => cases x <;> simp [app, num]
theorem sym2 (a b c : Bool) : Sym 2 [a, b, b, c] := by
  refine ⟨fun n => if n = 0 then a else if n = 1 then b else c, fun bs hb => ?_⟩
  match bs, hb with
  | [x, y], _ => cases x <;> cases y <;> simp [app, num]
theorem sym3 (a b c d : Bool) : Sym 3 [a, b, b, c, b, c, c, d] := by
  refine ⟨fun n => if n = 0 then a else if n = 1 then b else if n = 2 then c else d, fun bs hb => ?_⟩
  match bs, hb with
  | [x, y, z], _ => cases x <;> cases y <;> cases z <;> simp [app, num]

/-- what comes of the rows S by the table T of m places, again and again -/
inductive Cl (m : Nat) (T : List Bool) (k : Nat) (S : Row → Prop) : Row → Prop where
  | base {r : Row} (h : S r) : Cl m T k S r
  | step {rs : List Row} (hl : rs.length = m) (h : ∀ r ∈ rs, Cl m T k S r) : Cl m T k S (made T k rs)

/-- a list of rows from which no new row comes -/
def Closed (m : Nat) (T : List Bool) (k : Nat) (L : List Row) : Prop := ∀ rs : List Row, rs.length = m → (∀ r ∈ rs, r ∈ L) → made T k rs ∈ L

theorem Cl.mem {m : Nat} {T : List Bool} {k : Nat} {S : Row → Prop} {L : List Row} (hc : Closed m T k L) (hS : ∀ r, S r → r ∈ L) {r : Row} (h : Cl m T k S r) : r ∈ L := by
  induction h with
  | base h => exact hS _ h
  | step hl _ ih => exact hc _ hl ih
theorem Cl.len {m : Nat} {T : List Bool} {k : Nat} {S : Row → Prop} (hS : ∀ r, S r → r.length = k) {r : Row} (h : Cl m T k S r) : r.length = k := by
  cases h with
  | base h => exact hS _ h
  | step _ _ => exact made_length _ _ _
/-- the closure of a closure -/
theorem Cl.again {m : Nat} {T : List Bool} {k : Nat} {S : Row → Prop} {r : Row} (h : Cl m T k (Cl m T k S) r) : Cl m T k S r := by
  induction h with
  | base h => exact h
  | step hl _ ih => exact .step hl ih
theorem Cl.congr {m : Nat} {T : List Bool} {k : Nat} {S S' : Row → Prop} (e : ∀ r, S r → S' r) {r : Row} (h : Cl m T k S r) : Cl m T k S' r := by
  induction h with
  | base h => exact .base (e _ h)
  | step hl _ ih => exact .step hl ih

/-! ### how many rows there are -/
theorem num_snoc (bs : List Bool) (b : Bool) : num (bs ++ [b]) = 2 * num bs + b.toNat := by simp [num]
theorem num_lt : ∀ (n : Nat) (bs : List Bool), bs.length = n → num bs < 2 ^ n
  | 0, bs, h => by
    have : bs = [] := List.length_eq_zero_iff.mp h
    subst this
    decide
  | n + 1, bs, h => by
    have hne : bs ≠ [] := by intro e; subst e; simp at h
    have e := List.dropLast_concat_getLast hne
    have ih := num_lt n bs.dropLast (by simp [h])
    rw [← e, num_snoc]
    have hb : (bs.getLast hne).toNat ≤ 1 := by cases bs.getLast hne <;> decide
    have hp : 2 ^ (n + 1) = 2 * 2 ^ n := by rw [Nat.pow_succ]; omega
    omega
theorem num_inj : ∀ (n : Nat) (bs cs : List Bool), bs.length = n → cs.length = n → num bs = num cs → bs = cs
  | 0, bs, cs, h1, h2, _ => by rw [List.length_eq_zero_iff.mp h1, List.length_eq_zero_iff.mp h2]
  | n + 1, bs, cs, h1, h2, e => by
    have hb : bs ≠ [] := by intro z; subst z; simp at h1
    have hc : cs ≠ [] := by intro z; subst z; simp at h2
    have eb := List.dropLast_concat_getLast hb
    have ec := List.dropLast_concat_getLast hc
    rw [← eb, ← ec, num_snoc, num_snoc] at e
    have e1 : num bs.dropLast = num cs.dropLast ∧ bs.getLast hb = cs.getLast hc := by
      cases h : bs.getLast hb <;> cases h' : cs.getLast hc <;> rw [h, h'] at e <;> simp at e ⊢ <;> omega
    have ih := num_inj n bs.dropLast cs.dropLast (by simp [h1]) (by simp [h2]) e1.1
    rw [← eb, ← ec, ih, e1.2]

theorem nodup_le : ∀ (n : Nat) (l : List Nat), l.Nodup → (∀ x ∈ l, x < n) → l.length ≤ n
  | 0, l, _, h => by
    cases l with
    | nil => simp
    | cons x r => exact absurd (h x List.mem_cons_self) (Nat.not_lt_zero _)
  | n + 1, l, hn, h => by
    have hn' : (l.erase n).Nodup := hn.erase n
    have ih := nodup_le n (l.erase n) hn' fun x hx => by
      have hx' := (List.Nodup.mem_erase_iff hn).mp hx
      have := h x hx'.2
      omega
    by_cases hm : n ∈ l
    · have := List.length_erase_of_mem hm
      omega
    · rw [List.erase_of_not_mem hm] at ih
      omega
theorem nodup_map_of {α β : Type} (f : α → β) : ∀ (l : List α), (∀ x ∈ l, ∀ y ∈ l, f x = f y → x = y) → l.Nodup → (l.map f).Nodup
  | [], _, _ => List.nodup_nil
  | a :: l, hf, h => by
    obtain ⟨h1, h2⟩ := List.nodup_cons.mp h
    refine List.nodup_cons.mpr ⟨fun hm => ?_, nodup_map_of f l (fun x hx y hy => hf x (List.mem_cons_of_mem _ hx) y (List.mem_cons_of_mem _ hy)) h2⟩
    obtain ⟨b, hb, e⟩ := List.mem_map.mp hm
    have := hf b (List.mem_cons_of_mem _ hb) a List.mem_cons_self e
    exact h1 (this ▸ hb)
theorem rows_le {k : Nat} {l : List Row} (hn : l.Nodup) (hl : ∀ r ∈ l, r.length = k) : l.length ≤ 2 ^ k := by
  have h1 := nodup_map_of num l (fun x hx y hy e => num_inj k x y (hl x hx) (hl y hy) e) hn
  have h2 := nodup_le (2 ^ k) (l.map num) h1 fun x hx => by
    obtain ⟨r, hr, e⟩ := List.mem_map.mp hx
    rw [← e]
    exact num_lt k r (hl r hr)
  simpa using h2
/-- as many rows as there are: all of them -/
theorem rows_all {k : Nat} {l : List Row} (hn : l.Nodup) (hl : ∀ r ∈ l, r.length = k) (hz : l.length = 2 ^ k) {r : Row} (hr : r.length = k) : r ∈ l := by
  refine Classical.byContradiction fun h => ?_
  have := rows_le (k := k) (l := r :: l) (List.nodup_cons.mpr ⟨h, hn⟩) fun x hx => by
    rcases List.mem_cons.mp hx with e | e
    · rw [e]; exact hr
    · exact hl x e
  simp at this
  omega

/-! ### all rows, in order -/
def allRows : Nat → List Row
  | 0 => [[]]
  | n + 1 => (allRows n).flatMap fun r => [r ++ [false], r ++ [true]]
theorem mem_allRows : ∀ {n : Nat} {r : Row}, r ∈ allRows n ↔ r.length = n
  | 0, r => by simp [allRows]
  | n + 1, r => by
    rw [allRows, List.mem_flatMap]
    constructor
    · rintro ⟨q, hq, hr⟩
      have := (mem_allRows (n := n)).mp hq
      simp at hr
      rcases hr with e | e <;> subst e <;> simp [this]
    · intro h
      have hne : r ≠ [] := by intro e; subst e; simp at h
      have e := List.dropLast_concat_getLast hne
      refine ⟨r.dropLast, mem_allRows.mpr (by simp [h]), ?_⟩
      cases hg : r.getLast hne with
      | false => rw [hg] at e; simp [e]
      | true => rw [hg] at e; simp [e]
/-- strictly ascending, as rows of one size are -/
def Asc (l : List Row) : Prop := l.Pairwise fun a b => num a < num b
theorem asc_allRows : ∀ n, Asc (allRows n)
  | 0 => by simp [allRows, Asc]
  | n + 1 => by
    have ih := asc_allRows n
    unfold Asc at ih ⊢
    rw [allRows]
    generalize allRows n = l at ih
    induction l with
    | nil => simp
    | cons a l ihl =>
      rw [List.flatMap_cons]
      obtain ⟨h1, h2⟩ := List.pairwise_cons.mp ih
      refine List.pairwise_append.mpr ⟨?_, ihl h2, ?_⟩
      · simp [num_snoc]
      · intro x hx y hy
        obtain ⟨q, hq, hy⟩ := List.mem_flatMap.mp hy
        have := h1 q hq
        simp at hx hy
        rcases hx with e | e <;> rcases hy with e' | e' <;> subst e <;> subst e' <;> simp [num_snoc] <;> omega
theorem allRows_length (n : Nat) : (allRows n).length = 2 ^ n := by
  have hn : (allRows n).Nodup := (asc_allRows n).imp fun h e => by subst e; exact Nat.lt_irrefl _ h
  refine Nat.le_antisymm (rows_le hn fun r hr => mem_allRows.mp hr) ?_
  induction n with
  | zero => simp [allRows]
  | succ n ih =>
    have ih := ih ((asc_allRows n).imp fun h e => by subst e; exact Nat.lt_irrefl _ h)
    have : (allRows (n + 1)).length = 2 * (allRows n).length := by
      rw [allRows, List.length_flatMap]
      generalize allRows n = l
      induction l with
      | nil => rfl
      | cons a l ih => rw [List.map_cons, List.sum_cons, ih]; simp; omega
    rw [this, Nat.pow_succ]; omega
/-- two strictly ascending lists with the same rows are one -/
theorem asc_unique : ∀ {l l' : List Row}, Asc l → Asc l' → (∀ r, r ∈ l ↔ r ∈ l') → l = l'
  | [], [], _, _, _ => rfl
  | [], b :: l', _, _, h => by have := (h b).mpr List.mem_cons_self; simp at this
  | a :: l, [], _, _, h => by have := (h a).mp List.mem_cons_self; simp at this
  | a :: l, b :: l', h1, h2, h => by
    obtain ⟨p1, p2⟩ := List.pairwise_cons.mp h1
    obtain ⟨q1, q2⟩ := List.pairwise_cons.mp h2
    have e : a = b := by
      rcases List.mem_cons.mp ((h a).mp List.mem_cons_self) with e | ha
      · exact e
      · rcases List.mem_cons.mp ((h b).mpr List.mem_cons_self) with e | hb
        · exact e.symm
        · have := p1 b hb
          have := q1 a ha
          omega
    subst e
    have hl : l = l' := asc_unique p2 q2 fun r => by
      constructor
      · intro hr
        rcases List.mem_cons.mp ((h r).mp (List.mem_cons_of_mem _ hr)) with e | e
        · subst e; exact absurd (p1 r hr) (Nat.lt_irrefl _)
        · exact e
      · intro hr
        rcases List.mem_cons.mp ((h r).mpr (List.mem_cons_of_mem _ hr)) with e | e
        · subst e; exact absurd (q1 r hr) (Nat.lt_irrefl _)
        · exact e
    rw [hl]
theorem asc_nodup {l : List Row} (h : Asc l) : l.Nodup := h.imp fun h e => by subst e; exact Nat.lt_irrefl _ h
theorem asc_filter {l : List Row} (p : Row → Bool) (h : Asc l) : Asc (l.filter p) := h.filter p
end KM
namespace KM
/-! ### the ascending choices -/
def okc (s : List Nat) (r : Nat) : Bool := match s.getLast? with
  | none => true
  | some l => decide (l ≤ r)
def stepC (n : Nat) (s : List Nat) : List (List Nat) := ((List.range n).filter (okc s)).map fun r => s ++ [r]
def chosenL (n : Nat) : Nat → List (List Nat)
  | 0 => [[]]
  | m + 1 => (chosenL n m).flatMap (stepC n)
theorem stepC_length (n : Nat) (s : List Nat) : (stepC n s).length ≤ n := by
  unfold stepC
  rw [List.length_map]
  exact Nat.le_trans (List.length_filter_le _ _) (by simp)
theorem flat_le {α β : Type} (f : α → List β) (n : Nat) (hf : ∀ a, (f a).length ≤ n) : ∀ l : List α, (l.flatMap f).length ≤ l.length * n
  | [] => by simp
  | a :: l => by
    have ih := flat_le f n hf l
    have := hf a
    rw [List.flatMap_cons, List.length_append, List.length_cons, Nat.add_mul]
    omega
theorem chosenL_length {n : Nat} (h : n ≤ 16) : ∀ m, (chosenL n m).length ≤ 16 ^ m
  | 0 => by simp [chosenL]
  | m + 1 => by
    have ih := chosenL_length h m
    refine Nat.le_trans (flat_le (stepC n) n (stepC_length n) _) ?_
    rw [Nat.pow_succ]
    exact Nat.mul_le_mul ih h
theorem okc_iff {s : List Nat} (hs : s.Pairwise (· ≤ ·)) (r : Nat) : okc s r = true ↔ ∀ x ∈ s, x ≤ r := by
  unfold okc
  cases h : s.getLast? with
  | none =>
    have : s = [] := List.getLast?_eq_none_iff.mp h
    subst this
    simp
  | some l =>
    obtain ⟨ys, e⟩ := List.getLast?_eq_some_iff.mp h
    subst e
    simp only [decide_eq_true_eq]
    constructor
    · intro hl x hx
      rcases List.mem_append.mp hx with hx | hx
      · have := (List.pairwise_append.mp hs).2.2 x hx l (by simp)
        omega
      · simp at hx; omega
    · intro hx
      exact hx l (by simp)
theorem mem_chosenL {n : Nat} : ∀ {m : Nat} {t : List Nat}, t ∈ chosenL n m ↔ t.length = m ∧ (∀ x ∈ t, x < n) ∧ t.Pairwise (· ≤ ·)
  | 0, t => by
    rw [chosenL]
    simp only [List.mem_singleton, List.length_eq_zero_iff]
    constructor
    · intro e; subst e; simp
    · exact fun h => h.1
  | m + 1, t => by
    rw [chosenL, List.mem_flatMap]
    constructor
    · rintro ⟨s, hs, ht⟩
      obtain ⟨h1, h2, h3⟩ := (mem_chosenL (m := m)).mp hs
      obtain ⟨r, hr, e⟩ := List.mem_map.mp ht
      obtain ⟨hr1, hr2⟩ := List.mem_filter.mp hr
      have hr3 := (okc_iff h3 r).mp hr2
      subst e
      refine ⟨by simp [h1], fun x hx => ?_, ?_⟩
      · rcases List.mem_append.mp hx with hx | hx
        · exact h2 x hx
        · simp at hx; subst hx; simpa using hr1
      · refine List.pairwise_append.mpr ⟨h3, by simp, fun x hx y hy => ?_⟩
        simp at hy; subst hy
        exact hr3 x hx
    · rintro ⟨h1, h2, h3⟩
      have hne : t ≠ [] := by intro e; subst e; simp at h1
      have e := List.dropLast_concat_getLast hne
      generalize t.dropLast = s at e
      generalize t.getLast hne = r at e
      subst e
      obtain ⟨p1, _, p2⟩ := List.pairwise_append.mp h3
      refine ⟨s, mem_chosenL.mpr ⟨by simpa using h1, fun x hx => h2 x (List.mem_append_left _ hx), p1⟩, List.mem_map.mpr ⟨r, List.mem_filter.mpr ⟨?_, ?_⟩, rfl⟩⟩
      · simpa using h2 r (by simp)
      · exact (okc_iff p1 r).mpr fun x hx => p2 x hx r (by simp)
/-- any choice, put in order -/
theorem sorted_of : ∀ (l : List Nat), ∃ t : List Nat, t.Perm l ∧ t.Pairwise (· ≤ ·)
  | l => ⟨l.mergeSort (fun a b => decide (a ≤ b)), List.mergeSort_perm _ _, by
      have := List.pairwise_mergeSort (le := fun a b : Nat => decide (a ≤ b)) (fun a b c h1 h2 => by simp at *; omega) (fun a b => by simp; omega) l
      exact this.imp fun h => by simpa using h⟩
/-- the greatest of an ascending list stands last -/
theorem last_max {t : List Nat} (h : t.Pairwise (· ≤ ·)) {l : Nat} (hl : t.getLast? = some l) : ∀ x ∈ t, x ≤ l := by
  obtain ⟨ys, e⟩ := List.getLast?_eq_some_iff.mp hl
  subst e
  intro x hx
  rcases List.mem_append.mp hx with hx | hx
  · exact (List.pairwise_append.mp h).2.2 x hx l (by simp)
  · simp at hx; omega
end KM
namespace KM
/-! ### one turn of the quicker way: only choices with a new row are looked at -/
theorem idx_of {L : List Row} : ∀ (qs : List Row), (∀ q ∈ qs, q ∈ L) → ∃ is : List Nat, is.map (fun i => L.getD i []) = qs ∧ ∀ i ∈ is, i < L.length
  | [], _ => ⟨[], rfl, fun _ h => by simp at h⟩
  | q :: qs, h => by
    obtain ⟨is, e, hi⟩ := idx_of qs fun x hx => h x (List.mem_cons_of_mem _ hx)
    obtain ⟨i, hlt, ei⟩ := List.mem_iff_getElem.mp (h q List.mem_cons_self)
    refine ⟨i :: is, ?_, fun x hx => ?_⟩
    · rw [List.map_cons, e]
      simp [List.getD, hlt, ei]
    · rcases List.mem_cons.mp hx with e | e
      · rw [e]; exact hlt
      · exact hi x e
theorem turn_closed {m : Nat} {T : List Bool} {k kn : Nat} {L M : List Row} (hs : Sym m T) (hm : 1 ≤ m)
    (old : ∀ qs : List Row, qs.length = m → (∀ q ∈ qs, q ∈ L.take kn) → made T k qs ∈ L)
    (new : ∀ t ∈ chosenL L.length m, ∀ l, t.getLast? = some l → kn ≤ l → made T k (t.map fun i => L.getD i []) ∈ L ++ M) :
    ∀ qs : List Row, qs.length = m → (∀ q ∈ qs, q ∈ L) → made T k qs ∈ L ++ M := by
  intro qs hq hmem
  obtain ⟨is, e, hi⟩ := idx_of qs hmem
  obtain ⟨t, ht, hasc⟩ := sorted_of is
  have hil : is.length = m := by rw [← hq, ← e, List.length_map]
  have htl : t.length = m := by rw [ht.length_eq, hil]
  have e2 : made T k qs = made T k (t.map fun i => L.getD i []) := by
    rw [← e]
    exact made_perm hs k (by simp [hil]) (ht.symm.map _)
  rw [e2]
  cases hl : t.getLast? with
  | none =>
    have : t = [] := List.getLast?_eq_none_iff.mp hl
    subst this
    simp at htl
    omega
  | some l =>
    have hmx := last_max hasc hl
    by_cases c : kn ≤ l
    · exact new t (mem_chosenL.mpr ⟨htl, fun x hx => hi x (ht.mem_iff.mp hx), hasc⟩) l hl c
    · refine List.mem_append_left _ (old _ (by simp [htl]) fun q hq => ?_)
      obtain ⟨x, hx, ex⟩ := List.mem_map.mp hq
      have h1 := hmx x hx
      have h2 := hi x (ht.mem_iff.mp hx)
      rw [← ex]
      refine List.mem_take_iff_getElem.mpr ⟨x, by omega, ?_⟩
      simp [List.getD, h2]
end KM
end

section
set_option Elab.async false
set_option linter.all false
set_option maxRecDepth 100000
namespace KW
open PySem L2 KM
def top (i : Nat) : Stmt := PySem.Challenge.pw_eightcells_k44_least_kept.main.body.getD i (.Pass ⟨0, 0, 0, 0⟩)
abbrev sUndI : Stmt := inClass (top 5) 0
abbrev sIsBelow : Stmt := top 8
abbrev sIsRow : Stmt := top 9
abbrev sAreRows : Stmt := top 10
abbrev sRelI : Stmt := inClass (top 11) 0
abbrev sNum : Stmt := top 14
abbrev sSpell : Stmt := top 15
abbrev sMade : Stmt := top 16
abbrev sTab : Stmt := top 17
abbrev sPl : Stmt := top 19
abbrev sTup : Stmt := top 20
abbrev sLk : Stmt := top 21
abbrev sDraws : Stmt := top 23
abbrev sTake : Stmt := top 24
abbrev sAll : Stmt := top 25
abbrev sLTab : Stmt := top 26
abbrev sLMade : Stmt := top 27
abbrev sCho : Stmt := top 28
abbrev sClo : Stmt := top 29
abbrev sAny : Stmt := top 30
abbrev sRef : Stmt := top 31
abbrev sLaw : Stmt := top 32

/-! ### rows in the heap -/
def bi (b : Bool) : Int := if b then 1 else 0
def bv (b : Bool) : V := .int (bi b)
def ro (r : Row) : List V := r.map bv
theorem ro_length (r : Row) : (ro r).length = r.length := by simp [ro]
/-- v is a tuple of the row's values -/
def IsRow (H : Hp) (v : V) (r : Row) : Prop := ∃ a, v = .ref a ∧ H a = some (.tup (ro r))
abbrev RowsAt (H : Hp) (vs : List V) (rs : List Row) : Prop := Paired (IsRow H) vs rs
theorem IsRow.same {H H' : Hp} (e : Same H H') {v : V} {r : Row} (h : IsRow H v r) : IsRow H' v r := by
  obtain ⟨a, h1, h2⟩ := h
  exact ⟨a, h1, e _ _ h2⟩
theorem RowsAt.same {H H' : Hp} (e : Same H H') : ∀ {vs : List V} {rs : List Row}, RowsAt H vs rs → RowsAt H' vs rs
  | _, _, .nil => .nil
  | _, _, .cons h t => .cons (h.same e) (RowsAt.same e t)
theorem RowsAt.append {H : Hp} : ∀ {vs : List V} {rs : List Row} {vs' : List V} {rs' : List Row}, RowsAt H vs rs → RowsAt H vs' rs' → RowsAt H (vs ++ vs') (rs ++ rs')
  | _, _, _, _, .nil, h => h
  | _, _, _, _, .cons h t, h' => .cons h (RowsAt.append t h')
/-- what stands opposite the i-th -/
theorem Paired.at_ {α β : Type} {F : α → β → Prop} {xs : List α} {ys : List β} {i : Nat} {x : α} (p : Paired F xs ys) (hx : xs[i]? = some x) : ∃ y, ys[i]? = some y ∧ F x y := by
  induction p generalizing i with
  | nil => simp at hx
  | cons r _ ih => cases i with
    | zero => exact ⟨_, rfl, Option.some.inj (by simpa using hx) ▸ r⟩
    | succ j =>
      obtain ⟨y, hy, f⟩ := ih (i := j) (by simpa using hx)
      exact ⟨y, by simpa using hy, f⟩
theorem Paired.at' {α β : Type} {F : α → β → Prop} {xs : List α} {ys : List β} {i : Nat} {y : β} (p : Paired F xs ys) (hy : ys[i]? = some y) : ∃ x, xs[i]? = some x ∧ F x y := by
  induction p generalizing i with
  | nil => simp at hy
  | cons r _ ih => cases i with
    | zero => exact ⟨_, rfl, Option.some.inj (by simpa using hy) ▸ r⟩
    | succ j =>
      obtain ⟨x, hx, f⟩ := ih (i := j) (by simpa using hy)
      exact ⟨x, by simpa using hx, f⟩
theorem take_snoc {α : Type} : ∀ {l : List α} {i : Nat} {x : α}, l[i]? = some x → l.take (i + 1) = l.take i ++ [x]
  | [], i, x, h => by simp at h
  | a :: l, 0, x, h => by
    have e : a = x := Option.some.inj h
    subst e
    rfl
  | a :: l, i + 1, x, h => by
    have ih := take_snoc (l := l) (i := i) (x := x) h
    show a :: l.take (i + 1) = a :: l.take i ++ [x]
    rw [ih]
    rfl
theorem map_at {α β : Type} {f : α → β} {l : List α} {i : Nat} {y : β} (h : (l.map f)[i]? = some y) : ∃ x, l[i]? = some x ∧ y = f x := by
  rw [List.getElem?_map] at h
  cases e : l[i]? with
  | none =>
    rw [e] at h
    cases h
  | some x => rw [e] at h; exact ⟨x, rfl, (Option.some.inj h).symm⟩

/-! ### the facts of the top that several defs lean on -/
structure Txt (K : PySem.W.Frag) (mg : Str → Option Value) : Prop where
  len : mg "len" = none
  range : mg "range" = none
  int : mg "int" = none
  abs : mg "abs" = none
  tuple : mg "tuple" = none
  list : mg "list" = none
  zip : mg "zip" = none
  sorted : mg "sorted" = none
  isinst : mg "isinstance" = none
  bool : mg "bool" = none
  str : mg "str" = none
  repr : mg "repr" = none
section
variable {K : PySem.W.Frag} {mg : Str → Option Value} {base : Heap} {P : Program} {w : World}

/-! ### number_of -/
def spNum (K : PySem.W.Frag) : Sp := fun vs H Q _ => ∃ (a : Addr) (bs : List Bool), vs = [.ref a] ∧ SqL K H a (bs.map bv) ∧ bs.length ≤ 4 ∧ Q (.int (num bs)) H
theorem num_snoc' (bs : List Bool) (b : Bool) : (num (bs ++ [b]) : Int) = 2 * (num bs : Int) + bi b := by
  rw [num_snoc]
  cases b <;> simp [bi]
theorem scNum : FnScope ["bits", "number", "bit"] ["bits"] (defScope sNum) := ⟨rfl, rfl, rfl, by decide +kernel, rfl, by decide +kernel, by decide +kernel⟩
theorem ok_num {f : Addr} {fd : FuncData} (F : Fun K "number_of" "number_of" sNum f fd) : FnOk P w K mg base CX0 1 f fd ["bits"] (spNum K) := by
  refine F.ok scNum (fun vs H Q E h => ?_) (fun cdv A outer s H vs Q E hr h => ?_)
  · obtain ⟨a, bs, rfl, _⟩ := h
    rfl
  · obtain ⟨a, bs, rfl, hS, hl, k⟩ := h
    refine ⟨_, pss_cons (ps_set (i := 1) scNum.nd rfl (.inl rfl) pe_int)
      (pss_cons (ps_for PassesOwn.never rfl (pi_list (pv 0)) (pg_name (i := 2) scNum.nd rfl (.inl rfl))
        (pss_one (ps_set (i := 1) scNum.nd rfl (.inl rfl) (pe_op op_add (pe_op op_mul pe_int (pv 1)) (pv 2)))))
      (pss_one (ps_ret (pv 1)))), ?_⟩
    refine ⟨_, rfl, a, rfl, ⟨_, hS⟩, for_list (K := K) (a := a) (xs := bs.map bv) (fun i σ H2 => ∃ v : Option V, σ = [some (.ref a), some (.int (num (bs.take i))), v] ∧ H2 = H)
      ⟨none, rfl, rfl⟩ (fun i σ H2 _ ⟨_, _, e⟩ => e ▸ hS) ?_ ?_⟩
    · rintro i y σ H2 hi ⟨v, rfl, rfl⟩
      obtain ⟨b, hb, rfl⟩ := map_at hi
      refine ⟨_, rfl, _, _, rfl, rfl, .inl ⟨by decide, by decide⟩, _, rfl, _, _, rfl, rfl, ?_⟩
      refine ⟨some (bv b), ?_, rfl⟩
      rw [take_snoc hb, num_snoc']
      rfl
    · rintro σ H2 ⟨v, rfl, rfl⟩
      refine ⟨_, rfl, ?_⟩
      rw [List.length_map, List.take_length]
      exact k
end
end KW
end

section
set_option Elab.async false
set_option linter.all false
set_option maxRecDepth 100000
namespace KW
open PySem L2 KM
section
variable {K : PySem.W.Frag} {mg : Str → Option Value} {base : Heap} {P : Program} {w : World}
/-! ### _law_take: the hand holds the draws and the next one's place -/
structure HandAt (H : Hp) (a d : Addr) : Prop where
  at_ : ∃ (n : Nat) (ns : List Int), H a = some (.lst [.ref d, .int n]) ∧ H d = some (.lst (ns.map V.int)) ∧ ns.length ≤ 1000
def spTake : Sp := fun vs H Q _ => ∃ (a d : Addr) (m : Int), vs = [.ref a, .int m] ∧ HandAt H a d ∧ 0 < m ∧ ∀ (i : Int) (H' : Hp), 0 ≤ i → i < m → HandAt H' a d → (∀ b o, H b = some o → b ≠ a → H' b = some o) → Q (.int i) H'
theorem scTake : FnScope ["_law_hand", "_law_many", "_law_at", "_law_draws_here"] ["_law_hand", "_law_many"] (defScope sTake) := ⟨rfl, rfl, rfl, by decide +kernel, rfl, by decide +kernel, by decide +kernel⟩
theorem ok_take {f : Addr} {fd : FuncData} (F : Fun K "_law_take" "_law_take" sTake f fd) (T : Txt K mg) : FnOk P w K mg base CX0 1 f fd ["_law_hand", "_law_many"] spTake := by
  refine F.ok scTake (fun vs H Q E h => ?_) (fun cdv A outer s H vs Q E hr h => ?_)
  · obtain ⟨a, d, m, rfl, _⟩ := h
    rfl
  · obtain ⟨a, d, m, rfl, ⟨n, ns, ha, hd, hn⟩, hm, k⟩ := h
    have nad : d ≠ a := by
      rintro rfl
      rw [ha] at hd
      have e := Option.some.inj hd
      injection e with e
      have e2 := congrArg List.length e
      match ns, e, e2 with
      | [x, y], e, _ => simp at e
    refine ⟨_, pss_cons (ps_set (i := 2) scTake.nd rfl (.inl rfl) (pe_ix ix_list (pv 0) pe_int (fun _ _ => rfl)))
      (pss_cons (ps_asg (pe_op op_add (pv 2) pe_int) (pg_sub (pv 0) pe_int set_list))
      (pss_cons (ps_set (i := 3) scTake.nd rfl (.inl rfl) (pe_ix ix_list (pv 0) pe_int (fun _ _ => rfl)))
      (pss_cons (ps_if (pt_cmpR op_ge (pv 2) (pe_callB call_len_seq (by rfl) T.len PySem.boot_len (pa_cons (pv 3) pa_nil)) (nomark _)) (pss_one (ps_ret pe_int)) pss_nil)
      (pss_one (ps_ret (pe_op op_mod (pe_op op_fdiv (pe_callTy call_int1 (by rfl) T.int (by decide +kernel) (pa_cons (pe_ix ix_list (pv 3) (pv 2) (fun _ _ => rfl)) pa_nil)) pe_int) (pv 1))))))), ?_⟩
    have ha1 : ∀ o, upd H a o d = some (.lst (ns.map V.int)) := fun o => by rw [upd_ne nad]; exact hd
    have keep : ∀ o b u, H b = some u → b ≠ a → upd H a o b = some u := fun o b u e hb => by rw [upd_ne hb]; exact e
    have end_ : HandAt (upd H a (.lst [.ref d, .int ((n : Int) + 1)])) a d := ⟨n + 1, ns, by rw [upd_same]; rfl, ha1 _, hn⟩
    refine ⟨_, rfl, a, _, 1, .int n, rfl, rfl, SqL.of ha, rfl, ?_⟩
    refine ⟨_, rfl, _, _, rfl, rfl, _, rfl, a, _, 1, 1, rfl, rfl, ha, rfl, ?_⟩
    refine ⟨_, rfl, a, _, 0, .ref d, rfl, rfl, SqL.of upd_same, rfl, ?_⟩
    refine ⟨_, rfl, _, rfl, d, _, rfl, .inl (SqL.of (ha1 _)), _, _, rfl, rfl, _, rfl, ?_⟩
    refine ite2 (fun c => ?_) (fun c => ?_)
    · exact k 0 _ (by decide) hm end_ (keep _)
    · have hlt : n < ns.length := by
        have c' : ¬ (((ns.map V.int).length : Int) ≤ (n : Int)) := by simpa using c
        rw [List.length_map] at c'
        omega
      refine ⟨_, rfl, _, rfl, d, _, (n : Int), .int ns[n], rfl, rfl, SqL.of (ha1 _), at_of rfl (by simp [hlt]), .inl ⟨_, rfl, ?_⟩⟩
      refine ⟨_, _, rfl, rfl, ⟨by decide, by decide⟩, _, rfl, _, _, rfl, rfl, hm, ?_⟩
      exact k _ _ (Int.emod_nonneg _ (by omega)) (Int.emod_lt_of_pos _ hm) end_ (keep _)

/-! ### _law_all_rows -/
def spAll : Sp := fun vs H Q _ => ∃ (n : Nat), vs = [.int n] ∧ n ≤ 4 ∧ ∀ (H' : Hp) (p : Addr) (us : List V), Same H H' → H p = none → H' p = some (.lst us) → RowsAt H' us (allRows n) → Q (.ref p) H'
theorem scAll : FnScope ["_law_many", "_law_rows", "_law_k", "_law_longer", "_law_row"] ["_law_many"] (defScope sAll) := ⟨rfl, rfl, rfl, by decide +kernel, rfl, by decide +kernel, by decide +kernel⟩
theorem ro_snoc (r : Row) (b : Bool) : ro (r ++ [b]) = ro r ++ [bv b] := by simp [ro]
/-- row + (b,) : what comes is the longer row, all that stood stands -/
theorem cat_row {K : PySem.W.Frag} {H : Hp} {v : V} {r : Row} {t : Addr} {b : Bool} {Q : VK} (hv : IsRow H v r) (hr : r.length ≤ 4) (ht : H t = some (.tup [bv b]))
    (k : ∀ (H' : Hp) (u : V), Same H H' → IsRow H' u (r ++ [b]) → Q u H') : rCatA K v (.ref t) H Q := by
  obtain ⟨a, rfl, ha⟩ := hv
  refine ⟨a, t, _, _, rfl, rfl, SqT.of ha, SqT.of ht, ?_, fun e => ?_, fun _ e => (nomatch e), fun _ _ p hp => ?_⟩
  · rw [ro_length, sizeLine_eq]
    simp
    omega
  · have hr : r = [] := by simpa [ro] using e
    subst hr
    exact k H _ (Same.refl H) ⟨t, rfl, ht⟩
  · refine k _ _ (fun c o e => ?_) ⟨p, rfl, ?_⟩
    · rw [upd_ne (ne_of_none e hp)]; exact e
    · rw [upd_same, ro_snoc]
theorem same_upd {H H' : Hp} {p : Addr} {o : HO} (e : Same H H') (hp : H p = none) : Same H (upd H' p o) := fun b u h => by
  rw [upd_ne (ne_of_none h hp)]; exact e b u h
theorem same_new {H : Hp} {p : Addr} {o : HO} (hp : H p = none) : Same H (upd H p o) := same_upd (Same.refl H) hp
theorem allRows_len_le {n : Nat} (h : n ≤ 4) : (allRows n).length ≤ 16 := by
  rw [allRows_length]
  exact Nat.pow_le_pow_right (by decide) h
theorem flat_snoc {l : List Row} {i : Nat} {x : Row} (h : l[i]? = some x) : (l.take (i + 1)).flatMap (fun r => [r ++ [false], r ++ [true]]) = (l.take i).flatMap (fun r => [r ++ [false], r ++ [true]]) ++ [x ++ [false], x ++ [true]] := by
  rw [take_snoc h, List.flatMap_append]
  simp
theorem RowsAt.length {H : Hp} {vs : List V} {rs : List Row} (h : RowsAt H vs rs) : vs.length = rs.length := Paired.length h
theorem ok_all {f : Addr} {fd : FuncData} (F : Fun K "_law_all_rows" "_law_all_rows" sAll f fd) (T : Txt K mg) : FnOk P w K mg base CX0 1 f fd ["_law_many"] spAll := by
  refine F.ok scAll (fun vs H Q E h => ?_) (fun cdv A outer s H vs Q E hr h => ?_)
  · obtain ⟨n, rfl, _⟩ := h
    rfl
  · obtain ⟨n, rfl, hn, k⟩ := h
    refine ⟨_, pss_cons (ps_set (i := 1) scAll.nd rfl (.inl rfl) (pe_lst (pa_cons (pe_tup pa_nil) pa_nil)))
      (pss_cons (ps_for PassesOwn.never rfl (pi_range1 rfl T.range (pa_cons (pv 0) pa_nil)) (pg_name (i := 2) scAll.nd rfl (.inl rfl))
        (pss_cons (ps_set (i := 3) scAll.nd rfl (.inl rfl) (pe_lst pa_nil))
        (pss_cons (ps_for PassesOwn.never rfl (pi_list (pv 1)) (pg_name (i := 4) scAll.nd rfl (.inl rfl))
          (pss_one (ps_set (i := 3) scAll.nd rfl (.inl rfl) (pe_op op_cat (pv 3)
            (pe_lst (pa_cons (pe_op op_catA (pv 4) (pe_tup (pa_cons pe_int pa_nil))) (pa_cons (pe_op op_catA (pv 4) (pe_tup (pa_cons pe_int pa_nil))) pa_nil)))))))
        (pss_one (ps_set (i := 1) scAll.nd rfl (.inl rfl) (pv 3))))))
      (pss_one (ps_ret (pv 1)))), ?_⟩
    -- rows = [()]
    refine ⟨by show 0 ≤ sizeLine; decide, fun t ht => ⟨by show 1 ≤ sizeLine; decide, fun p hp => ?_⟩⟩
    have npt : t ≠ p := ne_of_none upd_same hp
    have hp0 : H p = none := (same_new ht).free hp
    -- for k in range(many)
    refine ⟨_, rfl, (n : Int), rfl, by omega, by omega, for_range (lo := 0) (n := (n : Int).toNat) (fun i σ H2 => ∃ (p : Addr) (us : List V) (v2 v3 v4 : Option V), σ = [some (.int n), some (.ref p), v2, v3, v4] ∧ Same H H2 ∧ H p = none ∧ H2 p = some (.lst us) ∧ RowsAt H2 us (allRows i))
      ⟨p, _, none, none, none, rfl, same_upd (same_new ht) hp0, hp0, upd_same, .cons ⟨t, rfl, by rw [upd_ne npt, upd_same]; rfl⟩ .nil⟩ ?_ ?_⟩
    · rintro i σ H2 hi ⟨p, us, v2, v3, v4, rfl, e2, hp, hp2, hus⟩
      rw [Int.toNat_natCast] at hi
      have hz : (allRows i).length ≤ 16 := allRows_len_le (by omega)
      -- longer = []
      refine ⟨by show 0 ≤ sizeLine; decide, fun q hq => ?_⟩
      have hq0 : H q = none := e2.free hq
      -- for row in rows
      refine ⟨_, rfl, p, rfl, ⟨us, SqL.of (by rw [upd_ne (ne_of_none hp2 hq)]; exact hp2)⟩, for_list (K := K) (a := p) (xs := us)
        (fun j σ H3 => ∃ (q : Addr) (ws : List V) (v4 : Option V), σ = [some (.int n), some (.ref p), some (.int (0 + (i : Int))), some (.ref q), v4] ∧ Same H2 H3 ∧ H2 q = none ∧ H3 q = some (.lst ws) ∧ RowsAt H3 ws (((allRows i).take j).flatMap fun r => [r ++ [false], r ++ [true]]))
        ⟨q, [], v4, rfl, same_new hq, hq, upd_same, .nil⟩ (fun j σ H3 _ ⟨_, _, _, _, e3, _⟩ => SqL.of (e3 _ _ hp2)) ?_ ?_⟩
      · rintro j y σ H3 hj ⟨q, ws, v4, rfl, e3, hq, hq3, hws⟩
        obtain ⟨r, hr, hy⟩ := Paired.at_ hus hj
        have hrl : r.length = i := mem_allRows.mp (List.mem_of_getElem? hr)
        have hjl : j < (allRows i).length := (List.getElem?_eq_some_iff.mp hr).1
        have hwl := hws.length
        have hwl2 : ((((allRows i).take j).flatMap fun r => [r ++ [false], r ++ [true]])).length ≤ 32 := by
          rw [List.length_flatMap]
          have : ∀ l : List Row, (l.map fun r : Row => ([r ++ [false], r ++ [true]] : List Row).length).sum = 2 * l.length := by
            intro l
            induction l with
            | nil => rfl
            | cons a l ih => rw [List.map_cons, List.sum_cons, ih]; simp; omega
          rw [this, List.length_take]
          omega
        -- longer + [row + (0,), row + (1,)]
        refine ⟨_, rfl, _, rfl, by show 1 ≤ sizeLine; decide, fun t1 h1 => ?_⟩
        have f1 : Same H3 (upd H3 t1 (.tup [bv false])) := same_new h1
        refine cat_row (b := false) (hy.same (e3.trans f1)) (by omega) upd_same fun H4 u4 f4 h4 => ?_
        refine ⟨_, rfl, by show 1 ≤ sizeLine; decide, fun t2 h2 => ?_⟩
        have f2 : Same H4 (upd H4 t2 (.tup [bv true])) := same_new h2
        refine cat_row (b := true) (hy.same (e3.trans (f1.trans (f4.trans f2)))) (by omega) upd_same fun H5 u5 f5 h5 => ?_
        refine ⟨by show 2 ≤ sizeLine; decide, fun t3 h3 => ?_⟩
        have f35 : Same H3 H5 := f1.trans (f4.trans (f2.trans f5))
        have f36 : Same H3 (upd H5 t3 (.lst [u4, u5])) := same_upd f35 (f35.free h3)
        have f56 : Same H5 (upd H5 t3 (.lst [u4, u5])) := same_new h3
        refine ⟨q, t3, ws, [u4, u5], rfl, rfl, f36 _ _ hq3, upd_same, ?_, fun q' hq' => ?_⟩
        · rw [hwl]
          exact Nat.le_trans (Nat.add_le_add_right hwl2 2) (by decide)
        · have f37 := same_upd (o := .lst (ws ++ [u4, u5])) f36 (f36.free hq')
          have f67 := same_new (o := .lst (ws ++ [u4, u5])) hq'
          refine ⟨q', ws ++ [u4, u5], some y, rfl, e3.trans f37, (e3.trans f36).free hq', upd_same, ?_⟩
          rw [flat_snoc hr]
          exact (hws.same f37).append (.cons (h4.same (f2.trans (f5.trans (f56.trans f67)))) (.cons (h5.same (f56.trans f67)) .nil))
      · rintro σ H3 ⟨q, ws, v4, rfl, e3, hq, hq3, hws⟩
        refine ⟨_, rfl, q, ws, some (.int (0 + (i : Int))), some (.ref q), v4, rfl, e2.trans e3, e2.free hq, hq3, ?_⟩
        rw [hus.length, List.take_length] at hws
        exact hws
    · rintro σ H2 ⟨p, us, v2, v3, v4, rfl, e2, hp, hp2, hus⟩
      rw [Int.toNat_natCast] at hus
      exact ⟨_, rfl, k H2 p us e2 hp hp2 hus⟩
end
end KW
end

section
set_option Elab.async false
set_option linter.all false
set_option maxRecDepth 100000
namespace KW
open PySem L2 KM
section
variable {K : PySem.W.Frag} {mg : Str → Option Value} {base : Heap} {P : Program} {w : World}
/-! ### _law_draws: some ints -/
def spDraws (K : PySem.W.Frag) : Sp := fun vs H Q _ => ∃ (a : Addr) (ns : List Int), vs = [.ref a, .int 120] ∧ SqL K H a (ns.map V.int) ∧ ns.length ≤ 63 ∧
  ∀ (H' : Hp) (d : Addr) (ds : List Int), Same H H' → H d = none → H' d = some (.lst (ds.map V.int)) → ds.length ≤ 1000 → Q (.ref d) H'
abbrev nDraws : List Str := ["_law_script", "_law_many", "_law_cell", "_law_rests", "_law_draws_here", "_law_k", "_law_at", "_law_mixed"]
theorem scDraws : FnScope nDraws ["_law_script", "_law_many"] (defScope sDraws) := ⟨rfl, rfl, rfl, by decide +kernel, rfl, by decide +kernel, by decide +kernel⟩
theorem map_snoc (ms : List Int) (x : Int) : ms.map V.int ++ [V.int x] = (ms ++ [x]).map V.int := by simp
theorem mod_b (x m : Int) (h : 0 < m) (h2 : m < 2 ^ 64) : -(2 ^ 64) < x % m ∧ x % m < 2 ^ 64 := by
  have h1 := Int.emod_nonneg x (show m ≠ 0 by omega)
  have h3 := Int.emod_lt_of_pos x h
  omega
theorem ok_draws {f : Addr} {fd : FuncData} (F : Fun K "_law_draws" "_law_draws" sDraws f fd) (T : Txt K mg) : FnOk P w K mg base CX0 1 f fd ["_law_script", "_law_many"] (spDraws K) := by
  refine F.ok scDraws (fun vs H Q E h => ?_) (fun cdv A outer s H vs Q E hr h => ?_)
  · obtain ⟨a, ns, rfl, _⟩ := h
    rfl
  · obtain ⟨a, ns, rfl, hS, hn, k⟩ := h
    refine ⟨_, pss_cons (ps_setLc (i := 3) (own := [("_law_cell", 2)]) (g := gName 2) (tt := tYes) rfl scDraws.nd rfl rfl (sw_true rfl rfl rfl (by decide +kernel)) (pi_list (pv 0))
        (blkOk_by (N := nDraws) (sc := defScope sDraws) (by decide +kernel)) (fun _ _ _ _ _ => pg_name (i := 2) scDraws.nd rfl (.inl rfl)) (fun _ _ _ _ _ => pts_nil)
        (fun _ _ _ _ _ => pe_callB call_abs (by rfl) T.abs (by decide +kernel) (pa_cons (pe_callTy call_int1 (by rfl) T.int (by decide +kernel) (pa_cons (pv 2) pa_nil)) pa_nil)))
      (pss_cons (ps_set (i := 4) scDraws.nd rfl (.inl rfl) (pe_lst pa_nil))
      (pss_cons (ps_for PassesOwn.never rfl (pi_range1 rfl T.range (pa_cons (pv 1) pa_nil)) (pg_name (i := 5) scDraws.nd rfl (.inl rfl))
        (pss_cons (ps_set (i := 2) scDraws.nd rfl (.inl rfl) (pv 5))
        (C8.pss_cut (ps_if (pt_cmpR op_gt (pe_callB call_len_seq (by rfl) T.len PySem.boot_len (pa_cons (pv 0) pa_nil)) pe_int (nomark _))
          (pss_cons (ps_set (i := 6) scDraws.nd rfl (.inl rfl) (pe_op op_mod (pv 5) (pe_callB call_len_seq (by rfl) T.len PySem.boot_len (pa_cons (pv 0) pa_nil))))
          (pss_cons (ps_set (i := 2) scDraws.nd rfl (.inl rfl) (pe_callTy call_int1 (by rfl) T.int (by decide +kernel) (pa_cons (pe_ix ix_list (pv 0) (pv 6) (fun _ _ => rfl)) pa_nil)))
          (pss_one (ps_if (PW.pt (pw_and (pt_cmpR op_ge (pv 2) (pe_op op_pow pe_int pe_int) (nomark _)) (pw_and1 (pt_cmpR op_gt (pe_ix ix_list (pv 3) (pv 6) (fun _ _ => rfl)) pe_int (nomark _)))))
            (pss_cons (ps_expr (pe_bm PySem.F.plainAttrs_list PySem.F.slot_list_append PySem.F.type_list_append mt_append (pv 4)
                (pa_cons (pe_op op_mod (pe_callTy call_int1 (by rfl) T.int (by decide +kernel) (pa_cons (pe_ix ix_list (pv 3) (pv 6) (fun _ _ => rfl)) pa_nil)) pe_int) pa_nil)))
            (pss_cons (ps_asg (pe_op op_fdiv (pe_callTy call_int1 (by rfl) T.int (by decide +kernel) (pa_cons (pe_ix ix_list (pv 3) (pv 6) (fun _ _ => rfl)) pa_nil)) pe_int) (pg_sub (pv 3) (pv 6) set_list))
            (pss_one ps_continue))) pss_nil)))) pss_nil)
        (pss_cons (ps_set (i := 7) scDraws.nd rfl (.inl rfl) (pe_op op_mod (pe_callTy call_int1 (by rfl) T.int (by decide +kernel) (pa_cons (pe_op op_add (pe_op op_add (pe_op op_mul (pv 2) pe_int) (pe_op op_mul (pv 5) pe_int)) pe_int) pa_nil)) pe_int))
        (pss_cons (ps_set (i := 7) scDraws.nd rfl (.inl rfl) (pe_op op_mod (pe_callTy call_int1 (by rfl) T.int (by decide +kernel) (pa_cons (pe_op op_add (pe_op op_fdiv (pe_op op_mul (pv 7) (pv 7)) pe_int) (pv 7)) pa_nil)) pe_int))
        (pss_one (ps_expr (pe_bm PySem.F.plainAttrs_list PySem.F.slot_list_append PySem.F.type_list_append mt_append (pv 4)
          (pa_cons (pe_op op_mod (pe_callTy call_int1 (by rfl) T.int (by decide +kernel) (pa_cons (pe_op op_add (pe_op op_fdiv (pe_op op_mul (pv 7) (pv 7)) pe_int) (pe_op op_mul (pv 5) pe_int)) pa_nil)) pe_int) pa_nil)))))))))
      (pss_one (ps_ret (pv 4))))), ?_⟩
    -- rests = [..]
    refine ⟨_, rfl, a, rfl, ⟨_, hS⟩, fun D hD => lc_list (K := K) (a := a) (xs := ns.map V.int) (fun i H2 => ∃ ms : List Int, H2 D = some (.lst (ms.map V.int)) ∧ ms.length = i ∧ Same H H2)
      ⟨[], upd_same, rfl, same_new hD⟩ (fun i H2 _ ⟨_, _, _, e⟩ => e.seq hS) ?_ ?_⟩
    · rintro i y H2 hi ⟨ms, hD2, hm, e2⟩
      obtain ⟨z, hz, rfl⟩ := map_at hi
      have hil : i < ns.length := (List.getElem?_eq_some_iff.mp hz).1
      refine ⟨rfl, ?_⟩
      refine ⟨_, rfl, .inl ⟨_, rfl, _, rfl, _, hD2, ?_, ms ++ [if z < 0 then -z else z], ?_, by simp [hm], same_upd e2 hD⟩⟩
      · rw [List.length_map, sizeLine_eq]; omega
      · rw [upd_same, map_snoc]
    · rintro H2 ⟨ms, hD2, hm, e2⟩
      rw [List.length_map] at hm
      -- draws = []
      refine ⟨by show 0 ≤ sizeLine; decide, fun d hd => ?_⟩
      have nDd : D ≠ d := ne_of_none hD2 hd
      have hd0 : H d = none := e2.free hd
      -- for k in range(many)
      refine ⟨_, rfl, 120, rfl, by decide, by decide, for_range (lo := 0) (n := 120) (fun i σ H3 => ∃ (ms ds : List Int) (v2 v5 v6 v7 : Option V), σ = [some (.ref a), some (.int 120), v2, some (.ref D), some (.ref d), v5, v6, v7] ∧ Same H H3 ∧ H3 D = some (.lst (ms.map V.int)) ∧ ms.length = ns.length ∧ H3 d = some (.lst (ds.map V.int)) ∧ ds.length ≤ i)
        ⟨ms, [], none, none, none, none, rfl, same_upd e2 hd0, by rw [upd_ne nDd]; exact hD2, hm, upd_same, Nat.le_refl _⟩ ?_ ?_⟩
      · rintro i σ H3 hi ⟨ms, ds, v2, v5, v6, v7, rfl, e3, h3, hms, hd3, hds⟩
        have hS3 : SqL K H3 a (ns.map V.int) := e3.seq hS
        refine ⟨_, rfl, fun σ' H' => ∃ (ms ds : List Int) (c : Int) (v6 v7 : Option V), σ' = [some (.ref a), some (.int 120), some (.int c), some (.ref D), some (.ref d), some (.int (0 + (i : Int))), v6, v7] ∧ Same H H' ∧ H' D = some (.lst (ms.map V.int)) ∧ ms.length = ns.length ∧ H' d = some (.lst (ds.map V.int)) ∧ ds.length ≤ i, ?_, ?_⟩
        · -- if len(script) > 0
          refine ⟨_, rfl, a, _, rfl, .inl hS3, _, _, rfl, rfl, _, rfl, ?_⟩
          refine ite2 (fun c => ?_) (fun c => ?_)
          · have hpos : 0 < ns.length := by
              have c' : (0 : Int) < ((ns.map V.int).length : Int) := by simpa using c
              rw [List.length_map] at c'
              omega
            -- at = k % len(script)
            refine ⟨_, rfl, _, rfl, a, _, rfl, .inl hS3, _, _, rfl, rfl, ?_, ?_⟩
            · show (0 : Int) < ((ns.map V.int).length : Int)
              rw [List.length_map]; omega
            have ej : ((0 + (i : Int)) % ((ns.map V.int).length : Int)) = ((i % ns.length : Nat) : Int) := by
              rw [List.length_map, Int.zero_add]
              rfl
            have hj : i % ns.length < ns.length := Nat.mod_lt _ hpos
            generalize i % ns.length = j at ej hj
            dsimp only
            rw [ej]
            -- cell = int(script[at])
            refine ⟨_, rfl, _, rfl, a, _, _, .int ns[j], rfl, rfl, hS3, atI_nat (by simp [hj]), .inl ⟨_, rfl, ?_⟩⟩
            -- if cell >= 10 ** 18 and rests[at] > 0
            have hjm : j < ms.length := by omega
            have hix : (ms.map V.int)[j]? = some (V.int ms[j]) := by simp [hjm]
            refine ⟨_, rfl, 10, 18, rfl, rfl, ⟨by decide, by decide, by decide⟩, _, _, rfl, rfl, _, rfl, ?_⟩
            refine ite2 (fun c1 => ?_) (fun c1 => ?_)
            · refine ⟨_, rfl, _, rfl, D, _, _, .int ms[j], rfl, rfl, SqL.of h3, atI_nat hix, _, _, rfl, rfl, _, rfl, ?_⟩
              refine ite2 (fun c2 => ?_) (fun c2 => ?_)
              · -- draws.append(int(rests[at]) % 1000003)
                refine ⟨_, rfl, .inl ⟨rfl, _, SqL.of hd3⟩, _, rfl, _, rfl, D, _, _, .int ms[j], rfl, rfl, SqL.of h3, atI_nat hix, .inl ⟨_, rfl, _, _, rfl, rfl, (by show (0 : Int) < 1000003; decide), d, _, _, rfl, rfl, hd3, ?_, ?_⟩⟩
                · rw [List.length_map, sizeLine_eq]; omega
                · -- rests[at] = int(rests[at]) // 1000003
                  have h3' : ∀ o, upd H3 d o D = some (.lst (ms.map V.int)) := fun o => by rw [upd_ne nDd]; exact h3
                  refine ⟨_, rfl, _, rfl, D, _, _, .int ms[j], rfl, rfl, SqL.of (h3' _), atI_nat hix, .inl ⟨_, rfl, _, _, rfl, rfl, ⟨by decide, by decide⟩, ?_⟩⟩
                  refine ⟨_, rfl, _, rfl, D, _, _, j, rfl, rfl, h3' _, ?_, ?_⟩
                  · rw [List.length_map]
                    unfold ixN
                    rw [if_pos (by omega), if_pos (by omega), Int.toNat_natCast]
                  · -- continue
                    refine ⟨ms.set j (ms[j] / 1000003), ds ++ [ms[j] % 1000003], _, _, _, v7, rfl, ?_, ?_, by simp [hms], ?_, by simp; omega⟩
                    · exact same_upd (same_upd e3 hd0) hD
                    · rw [upd_same, List.map_set]
                    · rw [upd_ne (Ne.symm nDd), upd_same, map_snoc]
              · exact ⟨ms, ds, _, _, v7, rfl, e3, h3, hms, hd3, hds⟩
            · exact ⟨ms, ds, _, _, v7, rfl, e3, h3, hms, hd3, hds⟩
          · exact ⟨ms, ds, _, v6, v7, rfl, e3, h3, hms, hd3, hds⟩
        · rintro σ' H4 ⟨ms, ds, c, v6, v7, rfl, e4, h4, hms, hd4, hds⟩
          refine ⟨_, rfl, _, _, rfl, rfl, .inr ⟨by decide, by decide⟩, _, rfl, _, _, rfl, rfl, .inr ⟨by decide, by decide⟩, _, _, rfl, rfl, _, _, rfl, rfl, .inl ⟨_, rfl, _, _, rfl, rfl, (by show (0 : Int) < 2147483647; decide), ?_⟩⟩
          refine ⟨_, rfl, _, rfl, _, _, rfl, rfl, .inl (mod_b _ _ (by decide) (by decide)), _, _, rfl, rfl, ⟨by decide, by decide⟩, _, rfl, _, _, rfl, rfl, .inl ⟨_, rfl, _, _, rfl, rfl, (by show (0 : Int) < 2147483629; decide), ?_⟩⟩
          refine ⟨_, rfl, .inl ⟨rfl, _, SqL.of hd4⟩, _, rfl, _, rfl, _, _, rfl, rfl, .inl (mod_b _ _ (by decide) (by decide)), _, _, rfl, rfl, ⟨by decide, by decide⟩, _, rfl, _, _, rfl, rfl, .inr ⟨by decide, by decide⟩, _, _, rfl, rfl, .inl ⟨_, rfl, _, _, rfl, rfl, (by show (0 : Int) < 2147483629; decide), d, _, _, rfl, rfl, hd4, ?_, ?_⟩⟩
          · rw [List.length_map, sizeLine_eq]; omega
          · exact ⟨ms, ds ++ [_], _, _, _, _, rfl, same_upd e4 hd0, by rw [upd_ne nDd]; exact h4, hms, by rw [upd_same, map_snoc], by simp; omega⟩
      · rintro σ H3 ⟨ms, ds, v2, v5, v6, v7, rfl, e3, h3, hms, hd3, hds⟩
        exact ⟨_, rfl, k H3 d ds e3 hd0 hd3 (by omega)⟩
end
end KW
end

section
set_option Elab.async false
set_option linter.all false
set_option maxRecDepth 100000
namespace KW
open PySem L2 KM
/-! ### words and their tables -/
abbrev wordsL : List Str := ["all no", "all yes", "and", "or", "majority", "odd one"]
abbrev tabsL : List (List Bool) := [[false, false], [true, true], [false, false, false, true], [false, true, true, true], [false, false, false, true, false, true, true, true], [false, true, true, false, true, false, false, true]]
abbrev arL : List Nat := [1, 1, 2, 2, 3, 3]
/-- z is a word, m its table's places, T its table -/
structure Word (z : Str) (m : Nat) (T : List Bool) : Prop where
  ex : ∃ j : Nat, wordsL[j]? = some z ∧ arL[j]? = some m ∧ tabsL[j]? = some T
theorem Word.cases {z : Str} {m : Nat} {T : List Bool} (h : Word z m T) {C : Str → Nat → List Bool → Prop} (c0 : C "all no" 1 [false, false]) (c1 : C "all yes" 1 [true, true]) (c2 : C "and" 2 [false, false, false, true]) (c3 : C "or" 2 [false, true, true, true])
    (c4 : C "majority" 3 [false, false, false, true, false, true, true, true]) (c5 : C "odd one" 3 [false, true, true, false, true, false, false, true]) : C z m T := by
  obtain ⟨j, h1, h2, h3⟩ := h
  match j, h1, h2, h3 with
  | 0, h1, h2, h3 => cases h1; cases h2; cases h3; exact c0
  | 1, h1, h2, h3 => cases h1; cases h2; cases h3; exact c1
  | 2, h1, h2, h3 => cases h1; cases h2; cases h3; exact c2
  | 3, h1, h2, h3 => cases h1; cases h2; cases h3; exact c3
  | 4, h1, h2, h3 => cases h1; cases h2; cases h3; exact c4
  | 5, h1, h2, h3 => cases h1; cases h2; cases h3; exact c5
  | n + 6, h1, _, _ => simp at h1
theorem Word.sym {z : Str} {m : Nat} {T : List Bool} (h : Word z m T) : Sym m T := h.cases (C := fun _ m T => Sym m T) (sym1 _ _) (sym1 _ _) (sym2 _ _ _) (sym2 _ _ _) (sym3 _ _ _ _) (sym3 _ _ _ _)
theorem Word.len {z : Str} {m : Nat} {T : List Bool} (h : Word z m T) : T.length = 2 ^ m := h.cases (C := fun _ m T => T.length = 2 ^ m) rfl rfl rfl rfl rfl rfl
theorem Word.pos {z : Str} {m : Nat} {T : List Bool} (h : Word z m T) : 1 ≤ m ∧ m ≤ 3 := h.cases (C := fun _ m _ => 1 ≤ m ∧ m ≤ 3) (by decide) (by decide) (by decide) (by decide) (by decide) (by decide)
/-- a table that is read -/
def TabAt (K : PySem.W.Frag) (H : Hp) (v : V) (T : List Bool) : Prop := ∃ a, v = .ref a ∧ SqT K H a (T.map bv)
theorem Same.tup {K : PySem.W.Frag} {H H' : Hp} {a : Addr} {xs : List V} (e : Same H H') (h : SqT K H a xs) : SqT K H' a xs := by
  refine h.imp (fun z => ?_) id
  exact z.imp (e _ _) fun ⟨o, w⟩ => ⟨o, e _ _ w⟩
theorem TabAt.same {K : PySem.W.Frag} {H H' : Hp} (e : Same H H') {v : V} {T : List Bool} (h : TabAt K H v T) : TabAt K H' v T := by
  obtain ⟨a, h1, h2⟩ := h
  exact ⟨a, h1, Same.tup e h2⟩
theorem first_at {ys : List V} {y : V} {j : Nat} (h : ((ys.take j).all fun z => !eqV z y) = true) : ∀ (m : Nat) (z' : V), m < j → ys[m]? = some z' → eqV z' y = false := fun m z' hm hz => by
  have h1 : z' ∈ ys.take j := by
    refine List.mem_of_getElem? (i := m) ?_
    rw [List.getElem?_take_of_lt hm]
    exact hz
  have h2 := List.all_eq_true.mp h z' h1
  simpa using h2
theorem word_first {j : Nat} {z : Str} (h : wordsL[j]? = some z) : [V.str "all no", V.str "all yes", V.str "and", V.str "or", V.str "majority", V.str "odd one"][j]? = some (.str z) ∧ eqV (.str z) (.str z) = true ∧
    ∀ (m : Nat) (z' : V), m < j → [V.str "all no", V.str "all yes", V.str "and", V.str "or", V.str "majority", V.str "odd one"][m]? = some z' → eqV z' (.str z) = false := by
  match j, h with
  | 0, h => cases h; exact ⟨rfl, by decide +kernel, first_at (by decide +kernel)⟩
  | 1, h => cases h; exact ⟨rfl, by decide +kernel, first_at (by decide +kernel)⟩
  | 2, h => cases h; exact ⟨rfl, by decide +kernel, first_at (by decide +kernel)⟩
  | 3, h => cases h; exact ⟨rfl, by decide +kernel, first_at (by decide +kernel)⟩
  | 4, h => cases h; exact ⟨rfl, by decide +kernel, first_at (by decide +kernel)⟩
  | 5, h => cases h; exact ⟨rfl, by decide +kernel, first_at (by decide +kernel)⟩
  | n + 6, h => simp at h
section
variable {K : PySem.W.Frag} {mg : Str → Option Value} {base : Heap} {P : Program} {w : World}
/-! ### _law_table -/
def spLTab (K : PySem.W.Frag) : Sp := fun vs H Q _ => ∃ (z : Str) (m : Nat) (T : List Bool), vs = [.str z] ∧ Word z m T ∧ ∀ (H' : Hp) (t : V), Same H H' → TabAt K H' t T → Q t H'
theorem scLTab : FnScope ["_law_word", "_law_tables"] ["_law_word"] (defScope sLTab) := ⟨rfl, rfl, rfl, by decide +kernel, rfl, by decide +kernel, by decide +kernel⟩
theorem ok_ltab {f : Addr} {fd : FuncData} (F : Fun K "_law_table" "_law_table" sLTab f fd) : FnOk P w K mg base CX0 1 f fd ["_law_word"] (spLTab K) := by
  refine F.ok scLTab (fun vs H Q E h => ?_) (fun cdv A outer s H vs Q E hr h => ?_)
  · obtain ⟨z, m, T, rfl, _⟩ := h
    rfl
  · obtain ⟨z, m, T, rfl, hw, k⟩ := h
    refine ⟨_, pss_cons (ps_set (i := 1) scLTab.nd rfl (.inl rfl) (pe_lst (pa_cons (pe_tup (pa_cons pe_int (pa_cons pe_int pa_nil))) (pa_cons (pe_tup (pa_cons pe_int (pa_cons pe_int pa_nil)))
        (pa_cons (pe_tup (pa_cons pe_int (pa_cons pe_int (pa_cons pe_int (pa_cons pe_int pa_nil))))) (pa_cons (pe_tup (pa_cons pe_int (pa_cons pe_int (pa_cons pe_int (pa_cons pe_int pa_nil)))))
        (pa_cons (pe_tup (pa_cons pe_int (pa_cons pe_int (pa_cons pe_int (pa_cons pe_int (pa_cons pe_int (pa_cons pe_int (pa_cons pe_int (pa_cons pe_int pa_nil)))))))))
        (pa_cons (pe_tup (pa_cons pe_int (pa_cons pe_int (pa_cons pe_int (pa_cons pe_int (pa_cons pe_int (pa_cons pe_int (pa_cons pe_int (pa_cons pe_int pa_nil))))))))) pa_nil))))))))
      (pss_one (ps_ret (pe_ix ix_list (pv 1) (pe_bm PySem.F.plainAttrs_list PySem.F.slot_list_index PySem.F.type_list_index mt_index
        (pe_lst (pa_cons pe_str (pa_cons pe_str (pa_cons pe_str (pa_cons pe_str (pa_cons pe_str (pa_cons pe_str pa_nil))))))) (pa_cons (pv 0) pa_nil)) (fun _ _ => rfl)))), ?_⟩
    refine ⟨by decide, fun t0 h0 => ⟨by decide, fun t1 h1 => ⟨by decide, fun t2 h2 => ⟨by decide, fun t3 h3 => ⟨by decide, fun t4 h4 => ⟨by decide, fun t5 h5 => ⟨by show 6 ≤ sizeLine; decide, fun l hl => ?_⟩⟩⟩⟩⟩⟩⟩
    refine ⟨_, rfl, by decide, fun q hq => ?_⟩
    have s0 := same_new (o := .tup [V.int 0, V.int 0]) h0
    have s1 := same_new (o := .tup [V.int 1, V.int 1]) h1
    have s2 := same_new (o := .tup [V.int 0, V.int 0, V.int 0, V.int 1]) h2
    have s3 := same_new (o := .tup [V.int 0, V.int 1, V.int 1, V.int 1]) h3
    have s4 := same_new (o := .tup [V.int 0, V.int 0, V.int 0, V.int 1, V.int 0, V.int 1, V.int 1, V.int 1]) h4
    have s5 := same_new (o := .tup [V.int 0, V.int 1, V.int 1, V.int 0, V.int 1, V.int 0, V.int 0, V.int 1]) h5
    have sl := same_new (o := .lst [V.ref t0, V.ref t1, V.ref t2, V.ref t3, V.ref t4, V.ref t5]) hl
    have sq := same_new (o := .lst [V.str "all no", V.str "all yes", V.str "and", V.str "or", V.str "majority", V.str "odd one"]) hq
    refine ⟨.inl ⟨rfl, _, SqL.of upd_same⟩, _, rfl, q, [V.str "all no", V.str "all yes", V.str "and", V.str "or", V.str "majority", V.str "odd one"], .str z, ?_⟩
    have fin := s0.trans (s1.trans (s2.trans (s3.trans (s4.trans (s5.trans (sl.trans sq))))))
    have hL := sq _ _ (upd_same (H := _) (a := l) (o := .lst [V.ref t0, V.ref t1, V.ref t2, V.ref t3, V.ref t4, V.ref t5]))
    have g0 := (s1.trans (s2.trans (s3.trans (s4.trans (s5.trans (sl.trans sq)))))) _ _ (upd_same (H := _) (a := t0) (o := .tup [V.int 0, V.int 0]))
    have g1 := (s2.trans (s3.trans (s4.trans (s5.trans (sl.trans sq))))) _ _ (upd_same (H := _) (a := t1) (o := .tup [V.int 1, V.int 1]))
    have g2 := (s3.trans (s4.trans (s5.trans (sl.trans sq)))) _ _ (upd_same (H := _) (a := t2) (o := .tup [V.int 0, V.int 0, V.int 0, V.int 1]))
    have g3 := (s4.trans (s5.trans (sl.trans sq))) _ _ (upd_same (H := _) (a := t3) (o := .tup [V.int 0, V.int 1, V.int 1, V.int 1]))
    have g4 := (s5.trans (sl.trans sq)) _ _ (upd_same (H := _) (a := t4) (o := .tup [V.int 0, V.int 0, V.int 0, V.int 1, V.int 0, V.int 1, V.int 1, V.int 1]))
    have g5 := (sl.trans sq) _ _ (upd_same (H := _) (a := t5) (o := .tup [V.int 0, V.int 1, V.int 1, V.int 0, V.int 1, V.int 0, V.int 0, V.int 1]))
    have hp : Paired (TabAt K _) [V.ref t0, V.ref t1, V.ref t2, V.ref t3, V.ref t4, V.ref t5] tabsL :=
      .cons ⟨t0, rfl, SqT.of g0⟩ (.cons ⟨t1, rfl, SqT.of g1⟩ (.cons ⟨t2, rfl, SqT.of g2⟩ (.cons ⟨t3, rfl, SqT.of g3⟩ (.cons ⟨t4, rfl, SqT.of g4⟩ (.cons ⟨t5, rfl, SqT.of g5⟩ .nil)))))
    obtain ⟨j, h1, h2, h3⟩ := hw.ex
    obtain ⟨v, hv, ht⟩ := Paired.at' hp h3
    obtain ⟨y1, y2, y3⟩ := word_first h1
    exact ⟨j, _, rfl, rfl, SqL.of upd_same, rfl, rfl, y1, y2, y3, l, _, _, v, rfl, rfl, SqL.of hL, atI_nat hv, k _ _ fin ht⟩
end
end KW
end

section
set_option Elab.async false
set_option linter.all false
set_option maxRecDepth 100000
set_option maxHeartbeats 1500000
namespace KW
open PySem PySem.Spec PyProof.Rows L2 KM
/-- three tuples walked side by side, each turn's items in a new triple -/
def It3 (K : PySem.W.Frag) (a b c : Addr) : It where
  go := fun i H => ∃ (xs ys zs : List V) (x y z : V), SqT K H a xs ∧ SqT K H b ys ∧ SqT K H c zs ∧ xs[i]? = some x ∧ ys[i]? = some y ∧ zs[i]? = some z
  yld := fun i H v H' => ∃ (T : Addr) (x y z : V), v = .ref T ∧ H T = none ∧ H' = upd H T (.tup [x, y, z]) ∧ (∀ xs, SqT K H a xs → xs[i]? = some x) ∧ (∀ ys, SqT K H b ys → ys[i]? = some y) ∧ ∀ zs, SqT K H c zs → zs[i]? = some z
  stop := fun i H => ∃ (xs ys zs : List V), SqT K H a xs ∧ SqT K H b ys ∧ SqT K H c zs ∧ i = min (min xs.length ys.length) zs.length
def cells3 (N : Nat) : List Addr := [N + 5, N + 3, N + 4, N, N + 1, N + 2]
def tn3 (N : Nat) (a b c : Addr) (i : Nat) (h : Heap) : Prop :=
  IsZip h (N + 5) (N + 3) (N + 4) .none ∧ IsTupOf3 h (N + 3) (.ref N) (.ref (N + 1)) (.ref (N + 2)) ∧ (∃ a1 a2 a3, IsTupOf3 h (N + 4) a1 a2 a3) ∧ h.IsTupleIter N a i ∧ h.IsTupleIter (N + 1) b i ∧ h.IsTupleIter (N + 2) c i
theorem mem_cells3 {N : Nat} {d : Addr} (h : d ∈ cells3 N) : d = N + 5 ∨ d = N + 3 ∨ d = N + 4 ∨ d = N ∨ d = N + 1 ∨ d = N + 2 := by simpa [cells3] using h
theorem ne_ltN {N j a : Nat} (h : a < N) : a ≠ N + j := by omega
theorem ne_lt {N j : Nat} {a : Addr} (h : a < N) : a ≠ N + j := ne_ltN h
theorem turn_3 {P : Program} {w : World} {K : PySem.W.Frag} {elts : List Expr} {kk : Nat} {tpos : Pos} {a b c : Addr} {N : Nat} (ha : a < N) (hb : b < N) (hc : c < N) :
    Turn P w K (.Tuple elts kk tpos) (It3 K a b c) (cells3 N) (N + 5) (tn3 N a b c) where
  mem := by simp [cells3]
  obj := fun i h st d hd => by
    obtain ⟨hz, hTI, ⟨x, y, z, hTO⟩, ⟨o1, e1, _, d1⟩, ⟨o2, e2, _, d2⟩, ⟨o3, e3, _, d3⟩⟩ := st
    rcases mem_cells3 hd with q | q | q | q | q | q
    · rw [q]; exact ⟨_, hz, fun v r => (nomatch r)⟩
    · rw [q]; exact ⟨_, hTI, fun v r => (nomatch r)⟩
    · rw [q]; exact ⟨_, hTO, fun v r => (nomatch r)⟩
    · exact ⟨o1, by rw [q]; exact e1, fun v r => by rw [d1] at r; cases r⟩
    · exact ⟨o2, by rw [q]; exact e2, fun v r => by rw [d2] at r; cases r⟩
    · exact ⟨o3, by rw [q]; exact e3, fun v r => by rw [d3] at r; cases r⟩
  keep := fun i h h' st k => by
    obtain ⟨hz, hTI, ⟨x, y, z, hTO⟩, h1, h2, h3⟩ := st
    exact ⟨k _ (by simp [cells3]) _ hz, k _ (by simp [cells3]) _ hTI, ⟨x, y, z, k _ (by simp [cells3]) _ hTO⟩, h1.at fun o q => k _ (by simp [cells3]) o q, h2.at fun o q => k _ (by simp [cells3]) o q, h3.at fun o q => k _ (by simp [cells3]) o q⟩
  item := by
    intro X hP hw hK hcalm i pins s σ H E I hf st hg
    subst hP hw hK
    obtain ⟨hz, hTI, hTO, h1, h2, h3⟩ := st
    obtain ⟨xs, ys, zs, x, y, z, qa, qb, qc, hx, hy, hz'⟩ := hg
    obtain ⟨ia, ra, pa, _⟩ := I.tuple qa
    obtain ⟨ib, rb, pb, _⟩ := I.tuple qb
    obtain ⟨ic, rc, pc, _⟩ := I.tuple qc
    have hh := I.ok.hd hcalm
    have G := GoesN.zip3 (prog := X.prog) (w := X.w) (A := X.A) (elts := elts) (x1 := kk) (pos := tpos)
      (zip_sep3 (N := N) (fp1 := [a]) (fp2 := [b]) (fp3 := [c]) (fun d hd => by rw [List.mem_singleton.mp hd]; exact ha) (fun d hd => by rw [List.mem_singleton.mp hd]; exact hb) (fun d hd => by rw [List.mem_singleton.mp hd]; exact hc))
      (Draws.tuple (A := X.A.in1) hh N a (Nat.ne_of_lt ha) ia.toArray) (Draws.tuple (A := X.A.in1) hh (N + 1) b (ne_lt hb) ib.toArray) (Draws.tuple (A := X.A.in1) hh (N + 2) c (ne_lt hc) ic.toArray)
    have lt3 : i < min (min ia.toArray.size ib.toArray.size) ic.toArray.size := by
      have l1 := ra.length
      have l2 := rb.length
      have l3 := rc.length
      have i1 := (List.getElem?_eq_some_iff.mp hx).1
      have i2 := (List.getElem?_eq_some_iff.mp hy).1
      have i3 := (List.getElem?_eq_some_iff.mp hz').1
      simp only [List.size_toArray]
      omega
    refine thn (G.goes i s (fun v s2 => ∃ u H', Inv X pins σ H' s2 ∧ RelV u v ∧ (It3 X.K a b c).yld i H u H' ∧ tn3 N a b c (i + 1) s2.heap ∧ ∀ d ∈ cells3 N, H' d = none) E lt3
      ⟨hz, hTI, hTO, ⟨h1, pa⟩, ⟨h2, pb⟩, ⟨h3, pc⟩⟩ fun v h' tk hY st' hk _ => ?_) fun r s1 ⟨v, hr, hw⟩ => ⟨v, hr, hw⟩
    obtain ⟨T, ux, uy, uz, rfl, hT, ex, ey, ez, hTup⟩ := hY
    obtain ⟨hz2, hTI2, hTO2, ⟨g1, _⟩, ⟨g2, _⟩, ⟨g3, _⟩⟩ := st'
    obtain ⟨vx, e1, r1⟩ := ra.get hx
    obtain ⟨vy, e2, r2⟩ := rb.get hy
    obtain ⟨vz, e3, r3⟩ := rc.get hz'
    have f1 : ux = vx := Option.some.inj (ex.symm.trans (by simpa using e1))
    have f2 : uy = vy := Option.some.inj (ey.symm.trans (by simpa using e2))
    have f3 : uz = vz := Option.some.inj (ez.symm.trans (by simpa using e3))
    subst f1 f2 f3
    have new : ObjOk X.prog X.w (upd H T (.tup [x, y, z])) h' T (.tup [x, y, z]) := ⟨by show 3 ≤ sizeLine; decide, [ux, uy, uz], .cons r1 (.cons r2 (.cons r3 .nil)), hTup⟩
    have wr_in : ∀ d, d ∉ cells3 N → d ∉ [N + 5, N + 4, N, N + 1, N + 2] := fun d hd hm => hd (by
      simp [cells3] at hm ⊢
      rcases hm with e | e | e | e | e <;> simp [e])
    have I1 : Inv X pins σ (upd H T (.tup [x, y, z])) { s with heap := h', toks := tk } := I.turnedNew (t' := tk) (ch := cells3 N) (fun d o hd q => hk d o (wr_in d hd) q) hf hT new
    refine ⟨.ref T, _, I1, rfl, ⟨T, x, y, z, rfl, I.hok.fresh hT, rfl, fun l hl => by rw [I.tuple_inj hl qa]; exact hx, fun l hl => by rw [I.tuple_inj hl qb]; exact hy, fun l hl => by rw [I.tuple_inj hl qc]; exact hz'⟩,
      ⟨hz2, hTI2, hTO2, g1, g2, g3⟩, fun d hd => ?_⟩
    have hlt : d < s.heap.objs.size := by
      obtain ⟨a1, a2, a3, hTO⟩ := hTO
      rcases mem_cells3 hd with q | q | q | q | q | q
      · rw [q]; exact Heap.lt_size hz
      · rw [q]
        exact Heap.lt_size hTI
      · rw [q]
        exact Heap.lt_size hTO
      · rw [q]; obtain ⟨_, e, _⟩ := h1; exact Heap.lt_size e
      · rw [q]; obtain ⟨_, e, _⟩ := h2; exact Heap.lt_size e
      · rw [q]; obtain ⟨_, e, _⟩ := h3; exact Heap.lt_size e
    rw [upd_ne (Nat.ne_of_lt (Nat.lt_of_lt_of_le hlt hT))]
    exact (hf d hd).1
  done := by
    intro X hP hw hK hcalm i pins s σ H E I hf st hg
    subst hP hw hK
    obtain ⟨hz, hTI, hTO, h1, h2, h3⟩ := st
    obtain ⟨xs, ys, zs, qa, qb, qc, hi⟩ := hg
    obtain ⟨ia, ra, pa, _⟩ := I.tuple qa
    obtain ⟨ib, rb, pb, _⟩ := I.tuple qb
    obtain ⟨ic, rc, pc, _⟩ := I.tuple qc
    have hh := I.ok.hd hcalm
    have G := GoesN.zip3 (prog := X.prog) (w := X.w) (A := X.A) (elts := elts) (x1 := kk) (pos := tpos)
      (zip_sep3 (N := N) (fp1 := [a]) (fp2 := [b]) (fp3 := [c]) (fun d hd => by rw [List.mem_singleton.mp hd]; exact ha) (fun d hd => by rw [List.mem_singleton.mp hd]; exact hb) (fun d hd => by rw [List.mem_singleton.mp hd]; exact hc))
      (Draws.tuple (A := X.A.in1) hh N a (Nat.ne_of_lt ha) ia.toArray) (Draws.tuple (A := X.A.in1) hh (N + 1) b (ne_lt hb) ib.toArray) (Draws.tuple (A := X.A.in1) hh (N + 2) c (ne_lt hc) ic.toArray)
    have ei : i = min (min ia.toArray.size ib.toArray.size) ic.toArray.size := by
      have l1 := ra.length
      have l2 := rb.length
      have l3 := rc.length
      simp only [List.size_toArray]
      omega
    subst ei
    refine G.stops s (fun s' => Inv X pins σ H s') E ⟨hz, hTI, hTO, ⟨h1, pa⟩, ⟨h2, pb⟩, ⟨h3, pc⟩⟩ fun h' tk hk _ => ?_
    refine I.turnedL (t' := tk) (ch := cells3 N) (fun d o hd q => hk d o (fun hm => hd ?_) q) hf
    simp [cells3] at hm ⊢
    rcases hm with e | e | e | e | e <;> simp [e]
  self := fun A j s Q E now again => wpAny_pyIter_zip now.1 again

def iZip3 (K : PySem.W.Frag) (ta : TA) : TI := fun σ H R => ta σ H fun vs H1 => ∃ (a b c : Addr) (xs ys zs : List V), vs = [.ref a, .ref b, .ref c] ∧ SqT K H1 a xs ∧ SqT K H1 b ys ∧ SqT K H1 c zs ∧ R (It3 K a b c) H1
theorem pi_zip3 {X : Cx} {e e2 e3 : Expr} {ta : TA} {p pos tpos : Pos} {elts : List Expr} {kk : Nat} (hg : Gl X "zip") (hm : X.mg "zip" = none) (ha : PA X [e, e2, e3] ta)
    (hs : starEach [e, e2, e3] X.env = (false, eval e X.env) :: starEach [e2, e3] X.env := by rfl) (hpl : (backTo pos (starEach [e2, e3] X.env)).any (·.1) = false := by rfl) :
    PI X (.Tuple elts kk tpos) (.Call (.Name "zip" p) [e, e2, e3] [] pos) (iZip3 X.K ta) := by
  refine ⟨fun pins s σ H R inv rd => Call_ (ld_blt inv hg hm PyProof.Rows.boot_zip (PyProof.Rows.callWith_type1 (thn (ha.run pos pins s σ H _ inv rd) fun us s1 ⟨vs, H1, I1, rel, more⟩ => ?_) hs hpl))⟩
  obtain ⟨a, b, c, xs, ys, zs, rfl, qa, qb, qc, q⟩ := more
  have e3 : us = [.ref a, .ref b, .ref c] := by
    cases rel with
    | cons ra t1 => cases t1 with
      | cons rb t2 => cases t2 with
        | cons rc t3 =>
          cases t3
          cases ra
          cases rb
          cases rc
          rfl
  subst e3
  obtain ⟨ia, _, pa, _⟩ := I1.tuple qa
  obtain ⟨ib, _, pb, _⟩ := I1.tuple qb
  obtain ⟨ic, _, pc, _⟩ := I1.tuple qc
  have la : a < s1.heap.objs.size := let ⟨_, o, _⟩ := pa; Heap.lt_size o
  have lb : b < s1.heap.objs.size := let ⟨_, o, _⟩ := pb; Heap.lt_size o
  have lc : c < s1.heap.objs.size := let ⟨_, o, _⟩ := pc; Heap.lt_size o
  refine zip_begins3 (begins_tuple a ia.toArray) (begins_tuple b ib.toArray) (begins_tuple c ic.toArray) pa pb pc fun h' hz hTI hTO g1 g2 g3 hsz hk => wpAny_pyIter_zip hz ?_
  refine ⟨s1.heap.objs.size + 5, cells3 s1.heap.objs.size, _, _, H1, rfl, I1.kept (t' := s1.toks) hk, turn_3 la lb lc, ⟨hz, hTI, ⟨_, _, _, hTO⟩, ⟨_, g1, rfl, rfl⟩, ⟨_, g2, rfl, rfl⟩, ⟨_, g3, rfl, rfl⟩⟩, fun d hd => ?_, q⟩
  have above : s1.heap.objs.size ≤ d := by
    rcases mem_cells3 hd with z | z | z | z | z | z <;> (subst z; first | exact Nat.le_add_right _ _ | exact Nat.le_refl _)
  exact I1.fpOk above (I1.hok.fresh above)
/-- as a walk -/
theorem walk_3 {K : PySem.W.Frag} {a b c : Addr} {xs ys zs : List V} {n : Nat} (h1 : xs.length = n) (h2 : ys.length = n) (h3 : zs.length = n) :
    Walk (It3 K a b c) n (fun H => SqT K H a xs ∧ SqT K H b ys ∧ SqT K H c zs) (fun i H v H' => ∃ (T : Addr) (x y z : V), v = .ref T ∧ H T = none ∧ H' = upd H T (.tup [x, y, z]) ∧ xs[i]? = some x ∧ ys[i]? = some y ∧ zs[i]? = some z) := by
  refine ⟨fun i H hi ⟨q1, q2, q3⟩ => ⟨xs, ys, zs, xs[i], ys[i], zs[i], q1, q2, q3, by simp [h1, hi], by simp [h2, hi], by simp [h3, hi]⟩, fun H ⟨q1, q2, q3⟩ => ⟨xs, ys, zs, q1, q2, q3, by omega⟩, fun i H v H' hi ⟨q1, q2, q3⟩ y => ?_⟩
  obtain ⟨T, x, y, z, e1, e2, e3, f1, f2, f3⟩ := y
  exact ⟨T, x, y, z, e1, e2, e3, f1 xs q1, f2 ys q2, f3 zs q3⟩
/-- zip of two tuples, as a walk -/
theorem walk_2 {K : PySem.W.Frag} {a b : Addr} {xs ys : List V} {n : Nat} (h1 : xs.length = n) (h2 : ys.length = n) :
    Walk (RZ.ItzT K a b) n (fun H => SqT K H a xs ∧ SqT K H b ys) (YPair (fun i => xs[i]?) (fun i => ys[i]?)) := by
  refine ⟨fun i H hi ⟨q1, q2⟩ => ⟨xs, ys, xs[i], ys[i], q1, q2, by simp [h1, hi], by simp [h2, hi]⟩, fun H ⟨q1, q2⟩ => ⟨xs, ys, q1, q2, .inl (by omega)⟩, fun i H v H' hi ⟨q1, q2⟩ y => ?_⟩
  obtain ⟨T, x, y, e1, e2, e3, f1, f2⟩ := y
  exact ⟨T, x, y, e1, e2, e3, f1 xs q1, f2 ys q2⟩
end KW
end

section
set_option Elab.async false
set_option linter.all false
set_option maxRecDepth 100000
namespace KW
open PySem L2 KM
theorem ro_at {r : Row} {i : Nat} {v : V} (h : (ro r)[i]? = some v) : ∃ b, r[i]? = some b ∧ v = bv b := map_at h
theorem getD_of {r : Row} {i : Nat} {b : Bool} (h : r[i]? = some b) : r.getD i false = b := by simp [List.getD, h]
theorem made_at {T : List Bool} {k : Nat} {rs : List Row} {i : Nat} (h : i < k) : (made T k rs)[i]? = some (app T (rs.map fun r => r.getD i false)) := by
  unfold made
  rw [List.getElem?_map, List.getElem?_range h]
  rfl
theorem made_more {T : List Bool} {k : Nat} {rs : List Row} {i : Nat} (h : i < k) : ro ((made T k rs).take (i + 1)) = ro ((made T k rs).take i) ++ [bv (app T (rs.map fun r => r.getD i false))] := by
  rw [take_snoc (made_at h)]
  simp [ro]
theorem tab_at {T : List Bool} {m : Nat} {bs : List Bool} (h : T.length = 2 ^ m) (hb : bs.length = m) : (T.map bv)[num bs]? = some (bv (app T bs)) := by
  have hl : num bs < T.length := by rw [h]; exact num_lt m bs hb
  simp [app, List.getD, hl]
theorem num1 (a : Bool) : ((num [a] : Nat) : Int) = bi a := by cases a <;> rfl
theorem num2 (a b : Bool) : ((num [a, b] : Nat) : Int) = 2 * bi a + bi b := by cases a <;> cases b <;> rfl
theorem num3 (a b c : Bool) : ((num [a, b, c] : Nat) : Int) = 4 * bi a + 2 * bi b + bi c := by cases a <;> cases b <;> cases c <;> rfl
section
variable {K : PySem.W.Frag} {mg : Str → Option Value} {base : Heap} {P : Program} {w : World}
/-! ### _law_made -/
def spLMade (K : PySem.W.Frag) : Sp := fun vs H Q _ => ∃ (t : V) (a : Addr) (T : List Bool) (us : List V) (rs : List Row) (m k : Nat), vs = [t, .ref a] ∧ TabAt K H t T ∧ SqL K H a us ∧ RowsAt H us rs ∧ rs.length = m ∧ 1 ≤ m ∧ m ≤ 3 ∧ T.length = 2 ^ m ∧
  (∀ r ∈ rs, r.length = k) ∧ k ≤ 4 ∧ ∀ (H' : Hp) (u : V), Same H H' → IsRow H' u (made T k rs) → Q u H'
abbrev nLMade : List Str := ["_law_table_here", "_law_rows", "_law_x", "_law_y", "_law_z"]
theorem scLMade : FnScope nLMade ["_law_table_here", "_law_rows"] (defScope sLMade) := ⟨rfl, rfl, rfl, by decide +kernel, rfl, by decide +kernel, by decide +kernel⟩
theorem ok_lmade {f : Addr} {fd : FuncData} (F : Fun K "_law_made" "_law_made" sLMade f fd) (T : Txt K mg) : FnOk P w K mg base CX0 1 f fd ["_law_table_here", "_law_rows"] (spLMade K) := by
  refine F.ok scLMade (fun vs H Q E h => ?_) (fun cdv A outer s H vs Q E hr h => ?_)
  · obtain ⟨t, a, _, _, _, _, _, rfl, _⟩ := h
    rfl
  · obtain ⟨t, a, Tb, us, rs, m, k, rfl, hT, hS, hR, hm, m1, m3, hTl, hk, hk4, q⟩ := h
    have hlen := hR.length
    refine ⟨_, pss_cons (ps_if (pt_cmpR op_eq (pe_callB call_len_seq (by rfl) T.len PySem.boot_len (pa_cons (pv 1) pa_nil)) pe_int (nomark _))
        (pss_one (ps_ret (pe_callTy call_tuple_of (by rfl) T.tuple (by decide +kernel) (pa_cons (pe_lc (own := [("_law_x", 2)]) (g := gName 2) (tt := tYes) rfl scLMade.nd (pi_tup (pe_ix ix_list (pv 1) pe_int (fun _ _ => rfl)))
          (blkOk_by (N := nLMade) (sc := defScope sLMade) (by decide +kernel)) (fun _ _ _ _ _ => pg_name (i := 2) scLMade.nd rfl (.inl rfl)) (fun _ _ _ _ _ => pts_nil)
          (fun _ _ _ _ _ => pe_ix (r := rIxT K) ix_tup (pv 0) (pv 2) (fun _ _ => rfl))) pa_nil)))) pss_nil)
      (pss_cons (ps_if (pt_cmpR op_eq (pe_callB call_len_seq (by rfl) T.len PySem.boot_len (pa_cons (pv 1) pa_nil)) pe_int (nomark _))
        (pss_one (ps_ret (pe_callTy call_tuple_of (by rfl) T.tuple (by decide +kernel) (pa_cons (pe_lc (own := [("_law_x", 2), ("_law_y", 3)]) (g := gTup K 2 (gCons (gName 2) (gCons (gName 3) gNil))) (tt := tYes) rfl scLMade.nd
          (RZ.pi_zipA (by rfl) T.zip (pa_cons (pe_ix ix_list (pv 1) pe_int (fun _ _ => rfl)) (pa_cons (pe_ix ix_list (pv 1) pe_int (fun _ _ => rfl)) pa_nil)))
          (blkOk_by (N := nLMade) (sc := defScope sLMade) (by decide +kernel)) (fun _ _ _ _ _ => pg_tup rfl (pgs_cons (pg_name (i := 2) scLMade.nd rfl (.inl rfl)) (pgs_cons (pg_name (i := 3) scLMade.nd rfl (.inl rfl)) pgs_nil))) (fun _ _ _ _ _ => pts_nil)
          (fun _ _ _ _ _ => pe_ix (r := rIxT K) ix_tup (pv 0) (pe_op op_add (pe_op op_mul pe_int (pv 2)) (pv 3)) (fun _ _ => rfl))) pa_nil)))) pss_nil)
      (pss_one (ps_ret (pe_callTy call_tuple_of (by rfl) T.tuple (by decide +kernel) (pa_cons (pe_lc (own := [("_law_x", 2), ("_law_y", 3), ("_law_z", 4)]) (g := gTup K 3 (gCons (gName 2) (gCons (gName 3) (gCons (gName 4) gNil)))) (tt := tYes) rfl scLMade.nd
          (pi_zip3 (by rfl) T.zip (pa_cons (pe_ix ix_list (pv 1) pe_int (fun _ _ => rfl)) (pa_cons (pe_ix ix_list (pv 1) pe_int (fun _ _ => rfl)) (pa_cons (pe_ix ix_list (pv 1) pe_int (fun _ _ => rfl)) pa_nil))))
          (blkOk_by (N := nLMade) (sc := defScope sLMade) (by decide +kernel)) (fun _ _ _ _ _ => pg_tup rfl (pgs_cons (pg_name (i := 2) scLMade.nd rfl (.inl rfl)) (pgs_cons (pg_name (i := 3) scLMade.nd rfl (.inl rfl)) (pgs_cons (pg_name (i := 4) scLMade.nd rfl (.inl rfl)) pgs_nil)))) (fun _ _ _ _ _ => pts_nil)
          (fun _ _ _ _ _ => pe_ix (r := rIxT K) ix_tup (pv 0) (pe_op op_add (pe_op op_add (pe_op op_mul pe_int (pv 2)) (pe_op op_mul pe_int (pv 3))) (pv 4)) (fun _ _ => rfl))) pa_nil))))), ?_⟩
    obtain ⟨ta, rfl, hta⟩ := hT
    have fin : ∀ (H2 : Hp) (D : Addr), Same H H2 → H2 D = some (.lst (ro ((made Tb k rs).take k))) → ∀ l, H2 l = none → Q (.ref l) (upd H2 l (.tup (ro ((made Tb k rs).take k)))) := fun H2 D e h l hl => by
      refine q _ _ (same_upd e (e.free hl)) ⟨l, rfl, ?_⟩
      rw [upd_same, List.take_of_length_le (Nat.le_of_eq (made_length _ _ _))]
    have sz : ∀ i, (ro ((made Tb k rs).take i)).length < sizeLine := fun i => by
      rw [ro_length, List.length_take, made_length, sizeLine_eq]
      omega
    have hS' := hS
    have h8 : k ≤ 4 := hk4
    -- what a turn leaves
    have next : ∀ (H2 : Hp) (D : Addr) (i : Nat) (bs : List Bool) (z : Int), i < k → H D = none → Same H H2 → H2 D = some (.lst (ro ((made Tb k rs).take i))) → rs.map (fun r => r.getD i false) = bs → ((num bs : Nat) : Int) = z → bs.length = m →
        atI (Tb.map bv) z = some (bv (app Tb bs)) ∧ ∃ acc, H2 D = some (.lst acc) ∧ acc.length < sizeLine ∧ Same H (upd H2 D (.lst (acc ++ [bv (app Tb bs)]))) ∧ upd H2 D (.lst (acc ++ [bv (app Tb bs)])) D = some (.lst (ro ((made Tb k rs).take (i + 1)))) := by
      intro H2 D i bs z hi hD e h2 hbs hz hb
      refine ⟨by rw [← hz]; exact atI_nat (tab_at hTl hb), _, h2, sz i, same_upd e hD, ?_⟩
      rw [upd_same, made_more hi, hbs]
    have e8 : ∀ (n : Nat) (z : Int), V.int (n : Int) = V.int z → (n : Int) = z := fun n z e => by injection e
    refine ⟨_, rfl, a, _, rfl, .inl hS, rfl, _, rfl, ?_⟩
    refine ite2 (fun c => ?_) (fun c => ?_)
    · -- len(rows) == 1
      have c1 := e8 _ _ (of_decide_eq_true c)
      obtain ⟨r0, rfl⟩ : ∃ r0, rs = [r0] := by
        match rs, hlen, c1 with
        | [r0], _, _ => exact ⟨r0, rfl⟩
        | [], h, c => rw [h] at c; simp at c
        | _ :: _ :: _, h, c => rw [h] at c; simp at c; omega
      obtain ⟨u0, rfl, a0, rfl, ha0⟩ : ∃ u0, us = [u0] ∧ IsRow H u0 r0 := by
        cases hR with
        | cons h t => cases t; exact ⟨_, rfl, h⟩
      have hr0 : r0.length = k := hk r0 (by simp)
      refine ⟨_, rfl, a, _, 0, .ref a0, rfl, rfl, hS, rfl, a0, rfl, ⟨_, SqT.of ha0⟩, fun D hD => lc_tup (K := K) (a := a0) (xs := ro r0) (fun i H2 => Same H H2 ∧ H2 D = some (.lst (ro ((made Tb k [r0]).take i))))
        ⟨same_new hD, upd_same⟩ (fun i H2 _ ⟨e, _⟩ => SqT.of (e _ _ ha0)) ?_ ?_⟩
      · rintro i y H2 hi ⟨e2, h2⟩
        obtain ⟨b, hb, rfl⟩ := ro_at hi
        have hik : i < k := by rw [← hr0]; exact (List.getElem?_eq_some_iff.mp hb).1
        obtain ⟨y1, acc, y2, y3, y4⟩ := next H2 D i [b] (bi b) hik hD e2 h2 (by simp only [List.map_cons, List.map_nil, getD_of hb]) (num1 b) (by rw [← hm]; rfl)
        exact ⟨rfl, _, rfl, _, rfl, ta, _, _, _, rfl, rfl, Same.tup e2 hta, y1, acc, y2, y3, y4⟩
      · rintro H2 ⟨e2, h2⟩
        rw [ro_length, hr0] at h2
        exact ⟨D, _, rfl, .inl ⟨SqL.of h2, fin H2 D e2 h2⟩⟩
    have c1 : (us.length : Int) ≠ 1 := fun e => c (decide_eq_true (by rw [e]))
    clear c
    refine ⟨_, rfl, a, _, rfl, .inl hS, rfl, _, rfl, ?_⟩
    refine ite2 (fun c => ?_) (fun c => ?_)
    · -- len(rows) == 2
      have c2 := e8 _ _ (of_decide_eq_true c)
      obtain ⟨r0, r1, rfl⟩ : ∃ r0 r1, rs = [r0, r1] := by
        match rs, hlen, c2 with
        | [r0, r1], _, _ => exact ⟨r0, r1, rfl⟩
        | [], h, c => rw [h] at c; simp at c
        | [_], h, c => rw [h] at c; simp at c
        | _ :: _ :: _ :: _, h, c => rw [h] at c; simp at c; omega
      obtain ⟨u0, u1, rfl, ⟨a0, rfl, ha0⟩, ⟨a1, rfl, ha1⟩⟩ : ∃ u0 u1, us = [u0, u1] ∧ IsRow H u0 r0 ∧ IsRow H u1 r1 := by
        cases hR with
        | cons h t =>
          cases t with
          | cons h' t => cases t; exact ⟨_, _, rfl, h, h'⟩
      have hr0 : r0.length = k := hk r0 (by simp)
      have hr1 : r1.length = k := hk r1 (by simp)
      refine ⟨_, rfl, a, _, 0, .ref a0, rfl, rfl, hS, rfl, _, rfl, a, _, 1, .ref a1, rfl, rfl, hS, rfl, a0, a1, _, _, rfl, .inr ⟨SqT.of ha0, SqT.of ha1, fun D hD => lc_it (walk_2 (K := K) (n := k) ((ro_length r0).trans hr0) ((ro_length r1).trans hr1))
        (fun i H2 => Same H H2 ∧ H2 D = some (.lst (ro ((made Tb k [r0, r1]).take i)))) ⟨same_new hD, upd_same⟩ (fun i H2 _ ⟨e, _⟩ => ⟨SqT.of (e _ _ ha0), SqT.of (e _ _ ha1)⟩) ?_ ?_⟩⟩
      · rintro i y H2 H3 hik ⟨e2, h2⟩ ⟨T3, x, z, rfl, hT3, rfl, hx, hz⟩
        obtain ⟨b, hb, rfl⟩ := ro_at hx
        obtain ⟨d, hd, rfl⟩ := ro_at hz
        have e3 : Same H (upd H2 T3 (.tup [bv b, bv d])) := same_upd e2 (e2.free hT3)
        obtain ⟨y1, acc, y2, y3, y4⟩ := next _ D i [b, d] (2 * bi b + bi d) hik hD e3 (by rw [upd_ne (ne_of_none h2 hT3)]; exact h2) (by simp only [List.map_cons, List.map_nil, getD_of hb, getD_of hd]) (num2 b d) (by rw [← hm]; rfl)
        exact ⟨T3, _, rfl, SqT.of upd_same, rfl, _, _, rfl, _, _, rfl, rfl, rfl, _, rfl, _, rfl, _, _, rfl, rfl, .inl ⟨by decide, by decide⟩, _, rfl, _, _, rfl, rfl, ta, _, _, _, rfl, rfl, Same.tup e3 hta, y1, acc, y2, y3, y4⟩
      · rintro H2 ⟨e2, h2⟩
        exact ⟨D, _, rfl, .inl ⟨SqL.of h2, fin H2 D e2 h2⟩⟩
    have c2 : (us.length : Int) ≠ 2 := fun e => c (decide_eq_true (by rw [e]))
    -- len(rows) == 3
    obtain ⟨r0, r1, r2, rfl⟩ : ∃ r0 r1 r2, rs = [r0, r1, r2] := by
      rw [hlen] at c1 c2
      match rs, hm with
      | [r0, r1, r2], _ => exact ⟨r0, r1, r2, rfl⟩
      | [], h => simp at h; omega
      | [_], h => simp at c1
      | [_, _], h => simp at c2
      | _ :: _ :: _ :: _ :: _, h => simp at h; omega
    obtain ⟨u0, u1, u2, rfl, ⟨a0, rfl, ha0⟩, ⟨a1, rfl, ha1⟩, ⟨a2, rfl, ha2⟩⟩ : ∃ u0 u1 u2, us = [u0, u1, u2] ∧ IsRow H u0 r0 ∧ IsRow H u1 r1 ∧ IsRow H u2 r2 := by
      cases hR with
      | cons h t =>
        cases t with
        | cons h' t =>
          cases t with
          | cons h'' t => cases t; exact ⟨_, _, _, rfl, h, h', h''⟩
    have hr0 : r0.length = k := hk r0 (by simp)
    have hr1 : r1.length = k := hk r1 (by simp)
    have hr2 : r2.length = k := hk r2 (by simp)
    refine ⟨_, rfl, a, _, 0, .ref a0, rfl, rfl, hS, rfl, _, rfl, a, _, 1, .ref a1, rfl, rfl, hS, rfl, _, rfl, a, _, 2, .ref a2, rfl, rfl, hS, rfl, a0, a1, a2, _, _, _, rfl, SqT.of ha0, SqT.of ha1, SqT.of ha2,
      fun D hD => lc_it (walk_3 (K := K) (n := k) ((ro_length r0).trans hr0) ((ro_length r1).trans hr1) ((ro_length r2).trans hr2))
      (fun i H2 => Same H H2 ∧ H2 D = some (.lst (ro ((made Tb k [r0, r1, r2]).take i)))) ⟨same_new hD, upd_same⟩ (fun i H2 _ ⟨e, _⟩ => ⟨SqT.of (e _ _ ha0), SqT.of (e _ _ ha1), SqT.of (e _ _ ha2)⟩) ?_ ?_⟩
    · rintro i y H2 H3 hik ⟨e2, h2⟩ ⟨T3, x, z, v, rfl, hT3, rfl, hx, hz, hv⟩
      obtain ⟨b, hb, rfl⟩ := ro_at hx
      obtain ⟨d, hd, rfl⟩ := ro_at hz
      obtain ⟨g, hg, rfl⟩ := ro_at hv
      have e3 : Same H (upd H2 T3 (.tup [bv b, bv d, bv g])) := same_upd e2 (e2.free hT3)
      obtain ⟨y1, acc, y2, y3, y4⟩ := next _ D i [b, d, g] (4 * bi b + 2 * bi d + bi g) hik hD e3 (by rw [upd_ne (ne_of_none h2 hT3)]; exact h2) (by simp only [List.map_cons, List.map_nil, getD_of hb, getD_of hd, getD_of hg]) (num3 b d g) (by rw [← hm]; rfl)
      exact ⟨T3, _, rfl, SqT.of upd_same, rfl, _, _, rfl, _, _, rfl, _, _, rfl, rfl, rfl, _, rfl, _, rfl, _, _, rfl, rfl, .inl ⟨by decide, by decide⟩, _, rfl, _, _, rfl, rfl, .inl ⟨by decide, by decide⟩, _, _, rfl, rfl, _, rfl, _, _, rfl, rfl, ta, _, _, _, rfl, rfl, Same.tup e3 hta, y1, acc, y2, y3, y4⟩
    · rintro H2 ⟨e2, h2⟩
      exact ⟨D, _, rfl, .inl ⟨SqL.of h2, fin H2 D e2 h2⟩⟩
end
end KW
end

section
set_option Elab.async false
set_option linter.all false
set_option maxRecDepth 100000
namespace KW
open PySem L2 KM
def nv (n : Nat) : V := .int (n : Int)
/-- v is a tuple of these places -/
def IsNats (H : Hp) (v : V) (s : List Nat) : Prop := ∃ a, v = .ref a ∧ H a = some (.tup (s.map nv))
abbrev NatsAt (H : Hp) (vs : List V) (ss : List (List Nat)) : Prop := Paired (IsNats H) vs ss
theorem IsNats.same {H H' : Hp} (e : Same H H') {v : V} {s : List Nat} (h : IsNats H v s) : IsNats H' v s := by
  obtain ⟨a, h1, h2⟩ := h
  exact ⟨a, h1, e _ _ h2⟩
theorem NatsAt.same {H H' : Hp} (e : Same H H') : ∀ {vs : List V} {ss : List (List Nat)}, NatsAt H vs ss → NatsAt H' vs ss
  | _, _, .nil => .nil
  | _, _, .cons h t => .cons (h.same e) (NatsAt.same e t)
theorem pair_append {α β : Type} {F : α → β → Prop} : ∀ {vs : List α} {rs : List β} {vs' : List α} {rs' : List β}, Paired F vs rs → Paired F vs' rs' → Paired F (vs ++ vs') (rs ++ rs')
  | _, _, _, _, .nil, h => h
  | _, _, _, _, .cons h t, h' => .cons h (pair_append t h')
theorem filter_more {n i : Nat} (p : Nat → Bool) (h : i < n) : ((List.range n).take (i + 1)).filter p = ((List.range n).take i).filter p ++ (if p i = true then [i] else []) := by
  rw [take_snoc (x := i) (by simp [h]), List.filter_append]
  congr 1
  by_cases c : p i = true
  · simp [c]
  · simp [c]
theorem last_at {s : List Nat} {l : Nat} (h : s.getLast? = some l) : atI (s.map nv) (-1) = some (nv l) := by
  obtain ⟨ys, e⟩ := List.getLast?_eq_some_iff.mp h
  subst e
  rw [List.map_append]
  exact atI_last _ _
theorem len_ix {T : List Bool} {m : Nat} (hm : 1 ≤ m) (hm3 : m ≤ 3) (h : T.length = 2 ^ m) : ∃ j : Nat, j + 1 = m ∧ [V.int 2, V.int 4, V.int 8][j]? = some (.int ((T.map bv).length : Int)) ∧ eqV (.int ((T.map bv).length : Int)) (.int ((T.map bv).length : Int)) = true ∧
    ∀ (i : Nat) (z' : V), i < j → [V.int 2, V.int 4, V.int 8][i]? = some z' → eqV z' (.int ((T.map bv).length : Int)) = false := by
  rw [List.length_map, h]
  match m, hm, hm3 with
  | 1, _, _ => exact ⟨0, rfl, rfl, by decide +kernel, fun i z' hi => absurd hi (Nat.not_lt_zero _)⟩
  | 2, _, _ => exact ⟨1, rfl, rfl, by decide +kernel, first_at (by decide +kernel)⟩
  | 3, _, _ => exact ⟨2, rfl, rfl, by decide +kernel, first_at (by decide +kernel)⟩
/-- some + (row,) -/
theorem cat_nats {K : PySem.W.Frag} {H : Hp} {v : V} {s : List Nat} {t : Addr} {r : Nat} {Q : VK} (hv : IsNats H v s) (hr : s.length ≤ 4) (ht : H t = some (.tup [nv r]))
    (k : ∀ (H' : Hp) (u : V), Same H H' → IsNats H' u (s ++ [r]) → Q u H') : rCatA K v (.ref t) H Q := by
  obtain ⟨a, rfl, ha⟩ := hv
  refine ⟨a, t, _, _, rfl, rfl, SqT.of ha, SqT.of ht, ?_, fun e => ?_, fun _ e => (nomatch e), fun _ _ p hp => ?_⟩
  · rw [List.length_map, sizeLine_eq]
    simp
    omega
  · have hs : s = [] := by simpa using e
    subst hs
    exact k H _ (Same.refl H) ⟨t, rfl, ht⟩
  · refine k _ _ (fun c o e => ?_) ⟨p, rfl, ?_⟩
    · rw [upd_ne (ne_of_none e hp)]; exact e
    · rw [upd_same, List.map_append]
      rfl
section
variable {K : PySem.W.Frag} {mg : Str → Option Value} {base : Heap} {P : Program} {w : World}
/-! ### _law_chosen -/
def spCho (K : PySem.W.Frag) : Sp := fun vs H Q _ => ∃ (a : Addr) (t : V) (T : List Bool) (n m : Nat), vs = [.ref a, t] ∧ SqL K H a ((List.range n).map nv) ∧ n ≤ 16 ∧ TabAt K H t T ∧ T.length = 2 ^ m ∧ 1 ≤ m ∧ m ≤ 3 ∧
  ∀ (H' : Hp) (p : Addr) (us : List V), Same H H' → H p = none → H' p = some (.lst us) → NatsAt H' us (chosenL n m) → Q (.ref p) H'
abbrev nCho : List Str := ["_law_rows", "_law_table_here", "_law_chosen_here", "_law_k", "_law_longer", "_law_some", "_law_row"]
theorem scCho : FnScope nCho ["_law_rows", "_law_table_here"] (defScope sCho) := ⟨rfl, rfl, rfl, by decide +kernel, rfl, by decide +kernel, by decide +kernel⟩
theorem ok_cho {f : Addr} {fd : FuncData} (F : Fun K "_law_chosen" "_law_chosen" sCho f fd) (T : Txt K mg) : FnOk P w K mg base CX0 1 f fd ["_law_rows", "_law_table_here"] (spCho K) := by
  refine F.ok scCho (fun vs H Q E h => ?_) (fun cdv A outer s H vs Q E hr h => ?_)
  · obtain ⟨a, t, _, _, _, rfl, _⟩ := h
    rfl
  · obtain ⟨a, t, Tb, n, m, rfl, hS, hn, hT, hTl, m1, m3, k⟩ := h
    refine ⟨_, pss_cons (ps_set (i := 2) scCho.nd rfl (.inl rfl) (pe_lst (pa_cons (pe_tup pa_nil) pa_nil)))
      (pss_cons (ps_for PassesOwn.never rfl (pi_range1 rfl T.range (pa_cons (pe_op op_add (pe_bm PySem.F.plainAttrs_list PySem.F.slot_list_index PySem.F.type_list_index mt_index
          (pe_lst (pa_cons pe_int (pa_cons pe_int (pa_cons pe_int pa_nil)))) (pa_cons (pe_callB call_len_seq (by rfl) T.len PySem.boot_len (pa_cons (pv 1) pa_nil)) pa_nil)) pe_int) pa_nil)) (pg_name (i := 3) scCho.nd rfl (.inl rfl))
        (pss_cons (ps_set (i := 4) scCho.nd rfl (.inl rfl) (pe_lst pa_nil))
        (pss_cons (ps_for PassesOwn.never rfl (pi_list (pv 2)) (pg_name (i := 5) scCho.nd rfl (.inr rfl))
          (pss_one (ps_set (i := 4) scCho.nd rfl (.inl rfl) (pe_op op_cat (pv 4)
            (pe_lc (own := [("_law_row", 6)]) (g := gName 6) (tt := tOr (tTest (tOp rEq (tCB (fun xs H Q => ∃ p ys, xs = [.ref p] ∧ (SqL K H p ys ∨ SqT K H p ys) ∧ Q (.int ys.length) H) (tCons (tVar 5) tNil)) (tC (.int 0))))
                (tTest (tOp (rI0 fun i j => .bl (decide (j ≤ i))) (tVar 6) (tOp (rIxT K) (tVar 5) (tUn (rU fun i => .int (-i)) (tC (.int 1))))))) rfl scCho.nd (pi_list (pv 0))
              (blkOk_by (N := nCho) (sc := defScope sCho) (by decide +kernel)) (fun _ _ _ _ _ => pg_name (i := 6) scCho.nd rfl (.inl rfl))
              (fun _ _ _ _ _ => pts_one (PW.pt (pw_or (pt_cmpR op_eq (pe_callB call_len_seq (by rfl) T.len PySem.boot_len (pa_cons (pv 5) pa_nil)) pe_int (nomark _)) (pw_or1 (pt_cmpR op_ge (pv 6) (pe_ix (r := rIxT K) ix_tup (pv 5) (pe_un un_neg pe_int) (fun _ _ => rfl)) (nomark _))))))
              (fun _ _ _ _ _ => pe_op (r := rCatA K) op_catA (pv 5) (pe_tup (pa_cons (pv 6) pa_nil))))))))
        (pss_one (ps_set (i := 2) scCho.nd rfl (.inl rfl) (pv 4))))))
      (pss_one (ps_ret (pv 2)))), ?_⟩
    obtain ⟨ta, rfl, hta⟩ := hT
    refine ⟨by show 0 ≤ sizeLine; decide, fun t0 ht0 => ⟨by show 1 ≤ sizeLine; decide, fun p hp => ?_⟩⟩
    have npt : t0 ≠ p := ne_of_none upd_same hp
    have hp0 : H p = none := (same_new ht0).free hp
    have e0 : Same H (upd (upd H t0 (.tup [])) p (.lst [.ref t0])) := same_upd (same_new ht0) hp0
    obtain ⟨j, hj, y1, y2, y3⟩ := len_ix m1 m3 hTl
    -- range([2, 4, 8].index(len(table)) + 1)
    refine ⟨by show 3 ≤ sizeLine; decide, fun q hq => ⟨.inl ⟨rfl, _, SqL.of upd_same⟩, _, rfl, ta, _, rfl, .inr (Same.tup (same_upd e0 (e0.free hq)) hta), q, _, _, j, _, rfl, rfl, SqL.of upd_same, rfl, rfl, y1, y2, y3, _, _, rfl, rfl, (j : Int) + 1, rfl, by omega, by omega, ?_⟩⟩
    have ej : ((j : Int) + 1).toNat = m := by omega
    rw [ej]
    have eq : Same H (upd (upd (upd H t0 (.tup [])) p (.lst [.ref t0])) q (.lst [V.int 2, V.int 4, V.int 8])) := same_upd e0 (e0.free hq)
    have npq : p ≠ q := ne_of_none upd_same hq
    have ntq : t0 ≠ q := ne_of_none (by rw [upd_ne npt, upd_same]) hq
    refine for_range (lo := 0) (n := m) (fun i σ H2 => ∃ (p : Addr) (us : List V) (v3 v4 v5 v6 : Option V), σ = [some (.ref a), some (.ref ta), some (.ref p), v3, v4, v5, v6] ∧ Same H H2 ∧ H p = none ∧ H2 p = some (.lst us) ∧ NatsAt H2 us (chosenL n i))
      ⟨p, [.ref t0], none, none, none, none, rfl, eq, hp0, by rw [upd_ne npq, upd_same], .cons ⟨t0, rfl, by rw [upd_ne ntq, upd_ne npt, upd_same]; rfl⟩ .nil⟩ ?_ ?_
    · rintro i σ H2 hi ⟨p, us, v3, v4, v5, v6, rfl, e2, hp, hp2, hus⟩
      have hcl : (chosenL n i).length ≤ 16 ^ 3 := Nat.le_trans (chosenL_length hn i) (Nat.pow_le_pow_right (by decide) (by omega))
      refine ⟨by show 0 ≤ sizeLine; decide, fun q hq => ?_⟩
      -- for some in chosen
      refine ⟨_, rfl, p, rfl, ⟨us, SqL.of (by rw [upd_ne (ne_of_none hp2 hq)]; exact hp2)⟩, for_list (K := K) (a := p) (xs := us)
        (fun j σ H3 => ∃ (q : Addr) (ws : List V) (v5 v6 : Option V), σ = [some (.ref a), some (.ref ta), some (.ref p), some (.int (0 + (i : Int))), some (.ref q), v5, v6] ∧ Same H2 H3 ∧ H2 q = none ∧ H3 q = some (.lst ws) ∧ NatsAt H3 ws (((chosenL n i).take j).flatMap (stepC n)))
        ⟨q, [], v5, v6, rfl, same_new hq, hq, upd_same, .nil⟩ (fun j σ H3 _ ⟨_, _, _, _, _, e3, _⟩ => SqL.of (e3 _ _ hp2)) ?_ ?_⟩
      · rintro j y σ H3 hj ⟨q, ws, v5, v6, rfl, e3, hq, hq3, hws⟩
        obtain ⟨s, hs, hy⟩ := Paired.at_ hus hj
        obtain ⟨b, rfl, hb⟩ := hy
        have hsm := (mem_chosenL.mp (List.mem_of_getElem? hs))
        have hsl : s.length ≤ 4 := by omega
        -- longer + [some + (row,) for row in rows if ..]
        refine ⟨_, rfl, _, rfl, a, rfl, ⟨_, (e2.trans e3).seq hS⟩, fun D hD => lc_list (K := K) (a := a) (xs := (List.range n).map nv)
          (fun r H4 => Same H3 H4 ∧ ∃ acc, H4 D = some (.lst acc) ∧ NatsAt H4 acc ((((List.range n).take r).filter (okc s)).map fun r => s ++ [r])) ⟨same_new hD, [], upd_same, .nil⟩ (fun r H4 _ ⟨e4, _⟩ => (e2.trans (e3.trans e4)).seq hS) ?_ ?_⟩
        · rintro r x H4 hr ⟨e4, acc, hacc, hna⟩
          obtain ⟨r', hr', rfl⟩ := map_at hr
          have hrn : r < n := by
            have := (List.getElem?_eq_some_iff.mp hr').1
            simpa using this
          obtain rfl : r' = r := by
            rw [List.getElem?_range hrn] at hr'
            exact (Option.some.inj hr').symm
          have hb4 : H4 b = some (.tup (s.map nv)) := e4 _ _ (e3 _ _ hb)
          have hal : acc.length ≤ 16 := by
            have h1 := Paired.length hna
            rw [h1, List.length_map]
            refine Nat.le_trans (List.length_filter_le _ _) ?_
            rw [List.length_take, List.length_range]
            omega
          have yes : okc s r' = true → ∀ (t1 : Addr), H4 t1 = none → rCatA K (.ref b) (.ref t1) (upd H4 t1 (.tup [nv r'])) fun y H5 => ∃ acc, H5 D = some (.lst acc) ∧ acc.length < sizeLine ∧
              Same H3 (upd H5 D (.lst (acc ++ [y]))) ∧ ∃ acc', upd H5 D (.lst (acc ++ [y])) D = some (.lst acc') ∧ NatsAt (upd H5 D (.lst (acc ++ [y]))) acc' ((((List.range n).take (r' + 1)).filter (okc s)).map fun r => s ++ [r]) := by
            intro hok t1 h1
            have f1 : Same H4 (upd H4 t1 (.tup [nv r'])) := same_new h1
            refine cat_nats (r := r') ⟨b, rfl, f1 _ _ hb4⟩ hsl upd_same fun H5 u f5 hu => ?_
            have f45 := f1.trans f5
            have hDt : ∀ (v : V) (s : List Nat), IsNats H5 v s → IsNats (upd H5 D (.lst (acc ++ [u]))) v s := fun v s ⟨c, h1, h2⟩ => ⟨c, h1, by rw [upd_ne (ne_of h2 (f45 _ _ hacc) (by intro z; cases z))]; exact h2⟩
            refine ⟨acc, f45 _ _ hacc, by rw [sizeLine_eq]; omega, same_upd (e4.trans f45) hD, acc ++ [u], upd_same, ?_⟩
            rw [filter_more _ hrn, hok, if_pos rfl, List.map_append]
            refine pair_append ?_ (.cons (hDt _ _ hu) .nil)
            exact Paired.mapP (hna.same f45) hDt
          have no : okc s r' = false → Same H3 H4 ∧ ∃ acc', H4 D = some (.lst acc') ∧ NatsAt H4 acc' ((((List.range n).take (r' + 1)).filter (okc s)).map fun r => s ++ [r]) := by
            intro hok
            refine ⟨e4, acc, hacc, ?_⟩
            rw [filter_more _ hrn, hok, if_neg (by decide), List.append_nil]
            exact hna
          refine ⟨rfl, _, rfl, b, _, rfl, .inr (SqT.of hb4), rfl, _, rfl, ?_⟩
          refine ite2 (fun c => ?_) (fun c => ?_)
          · have hs0 : s = [] := by
              have c' := of_decide_eq_true c
              injection c' with c'
              rw [List.length_map] at c'
              exact List.length_eq_zero_iff.mp (by omega)
            exact ⟨_, rfl, _, rfl, by show 1 ≤ sizeLine; decide, yes (by rw [hs0]; rfl)⟩
          · cases hg : s.getLast? with
            | none =>
              have hs0 : s = [] := List.getLast?_eq_none_iff.mp hg
              exact absurd (decide_eq_true (by rw [hs0]; rfl)) c
            | some l =>
              have ek : okc s r' = decide (l ≤ r') := by unfold okc; rw [hg]
              refine ⟨_, rfl, _, rfl, _, rfl, b, _, _, _, rfl, rfl, SqT.of hb4, last_at hg, _, _, rfl, rfl, _, rfl, ?_⟩
              refine ite2 (fun c2 => ?_) (fun c2 => ?_)
              · have c3 : (l : Int) ≤ (r' : Int) := of_decide_eq_true c2
                exact ⟨_, rfl, _, rfl, by show 1 ≤ sizeLine; decide, yes (by rw [ek]; exact decide_eq_true (by omega))⟩
              · have c3 : ¬ (l : Int) ≤ (r' : Int) := fun h => c2 (decide_eq_true h)
                exact no (by rw [ek]; exact decide_eq_false (by omega))
        · rintro H4 ⟨e4, acc, hacc, hna⟩
          have hna' : NatsAt H4 acc (stepC n s) := by
            have e : (List.range n).take ((List.range n).map nv).length = List.range n := by rw [List.length_map, List.take_length]
            rw [e] at hna
            exact hna
          have hal : acc.length ≤ 16 := by
            rw [Paired.length hna']
            exact Nat.le_trans (stepC_length n s) hn
          have hwl : ws.length ≤ 16 ^ 3 * 16 := by
            rw [Paired.length hws]
            refine Nat.le_trans (flat_le (stepC n) 16 (fun s => Nat.le_trans (stepC_length n s) hn) _) (Nat.mul_le_mul_right 16 (Nat.le_trans ?_ hcl))
            exact List.length_take_le' _ _
          refine ⟨q, D, ws, acc, rfl, rfl, e4 _ _ hq3, hacc, ?_, fun q' hq' => ?_⟩
          · refine Nat.le_trans (Nat.add_le_add hwl hal) (by decide)
          · have f4 : Same H4 (upd H4 q' (.lst (ws ++ acc))) := same_new hq'
            refine ⟨q', ws ++ acc, _, v6, rfl, e3.trans (e4.trans f4), e3.free (e4.free hq'), upd_same, ?_⟩
            rw [take_snoc hs, List.flatMap_append]
            refine pair_append (hws.same (e4.trans f4)) ?_
            simp only [List.flatMap_cons, List.flatMap_nil, List.append_nil]
            exact hna'.same f4
      · rintro σ H3 ⟨q, ws, v5, v6, rfl, e3, hq, hq3, hws⟩
        refine ⟨_, rfl, q, ws, _, some (.ref q), v5, v6, rfl, e2.trans e3, e2.free hq, hq3, ?_⟩
        rw [Paired.length hus, List.take_length] at hws
        exact hws
    · rintro σ H2 ⟨p, us, v3, v4, v5, v6, rfl, e2, hp, hp2, hus⟩
      exact ⟨_, rfl, k H2 p us e2 hp hp2 hus⟩
end
end KW
end

section
set_option Elab.async false
set_option linter.all false
set_option maxRecDepth 100000
namespace KW
open PySem L2 KM
/-! ### rows as data -/
def bd (b : Bool) : PyData := .int (bi b)
def rowD (r : Row) : PyData := .tuple (r.map bd)
theorem bd_eqv (a b : Bool) : PyData.eqv (bd a) (bd b) = decide (a = b) := by cases a <;> cases b <;> simp [bd, bi, PyData.eqv]
theorem bds_eqv : ∀ r q : Row, PyData.eqvAll (r.map bd) (q.map bd) = decide (r = q)
  | [], [] => by simp [PyData.eqvAll]
  | [], b :: q => by simp [PyData.eqvAll]
  | a :: r, [] => by simp [PyData.eqvAll]
  | a :: r, b :: q => by
    rw [List.map_cons, List.map_cons, PyData.eqvAll, bd_eqv, bds_eqv r q]
    by_cases h1 : a = b
    · by_cases h2 : r = q
      · simp [h1, h2]
      · simp [h1, h2]
    · simp [h1]
theorem rowD_eqv (r q : Row) : PyData.eqv (rowD r) (rowD q) = decide (r = q) := by
  unfold rowD
  rw [PyData.eqv]
  exact bds_eqv r q
theorem rows_any (L : List Row) (r : Row) : ((L.map rowD).any fun z => PyData.eqv z (rowD r)) = decide (r ∈ L) := by
  induction L with
  | nil => simp
  | cons a L ih =>
    rw [List.map_cons, List.any_cons, ih, rowD_eqv]
    by_cases h1 : a = r
    · simp [h1]
    · by_cases h2 : r ∈ L
      · simp [h2]
      · have h3 : ¬ r = a := fun e => h1 e.symm
        simp [h1, h2, h3]
theorem bds_lay : ∀ r : Row, PyData.canLayAll0 (r.map bd) = true
  | [] => by simp [PyData.canLayAll0]
  | a :: r => by simp [PyData.canLayAll0, PyData.canLay0, bd, bds_lay r]
theorem bds_depth : ∀ r : Row, PyData.depthAll (r.map bd) = 0
  | [] => by simp [PyData.depthAll]
  | a :: r => by simp [PyData.depthAll, PyData.depth, bd, bds_depth r]
theorem rowD_depth (r : Row) : (rowD r).depth = 1 := by simp [rowD, PyData.depth, bds_depth]
theorem rowD_lay (r : Row) : (rowD r).canLay0 = true := by simp [rowD, PyData.canLay0, bds_lay]
theorem rowDs_lay : ∀ L : List Row, PyData.canLayAll0 (L.map rowD) = true
  | [] => by simp [PyData.canLayAll0]
  | a :: r => by simp [PyData.canLayAll0, rowD_lay, rowDs_lay r]
theorem rowDs_depth : ∀ L : List Row, PyData.depthAll (L.map rowD) ≤ 1
  | [] => by simp [PyData.depthAll]
  | a :: r => by
    have h1 := rowDs_depth r
    have h2 := rowD_depth a
    simp only [List.map_cons, PyData.depthAll]
    omega
theorem rowD_shaped (r : Row) : SeqAt.shaped (rowD r) = true := by
  show ((rowD r).canLay0 && decide ((rowD r).depth ≤ 64)) = true
  rw [Bool.and_eq_true]
  exact ⟨rowD_lay r, decide_eq_true (by rw [rowD_depth]; decide)⟩
theorem rowDs_shaped (L : List Row) : SeqAt.shaped (.list (L.map rowD)) = true := by
  have h1 := rowDs_depth L
  show (PyData.canLay0 (.list (L.map rowD)) && decide (PyData.depth (.list (L.map rowD)) ≤ 64)) = true
  rw [Bool.and_eq_true]
  exact ⟨by simp only [PyData.canLay0]; exact rowDs_lay L, decide_eq_true (by simp only [PyData.depth]; omega)⟩
theorem Dp.bits {K : PySem.W.Frag} {H : Hp} : ∀ r : Row, DpAll K H (ro r) (r.map bd)
  | [] => .nil
  | a :: r => .cons (.int (bi a)) (Dp.bits r)
theorem Dp.row {K : PySem.W.Frag} {H : Hp} {v : V} {r : Row} (h : IsRow H v r) : Dp K H v (rowD r) := by
  obtain ⟨a, rfl, ha⟩ := h
  exact .tup (SqT.of ha) (Dp.bits r)
theorem Dp.rows {K : PySem.W.Frag} {H : Hp} : ∀ {vs : List V} {L : List Row}, RowsAt H vs L → DpAll K H vs (L.map rowD)
  | _, _, .nil => .nil
  | _, _, .cons h t => .cons (Dp.row h) (Dp.rows t)
/-- v not in l -/
theorem notin_rows {K : PySem.W.Frag} {H : Hp} {v : V} {r : Row} {l : Addr} {us : List V} {L : List Row} {Q : VK} (hv : IsRow H v r) (hl : H l = some (.lst us)) (hL : RowsAt H us L) (q : Q (.bl (!decide (r ∈ L))) H) : rNotInD K v (.ref l) H Q :=
  ⟨rowD r, L.map rowD, Dp.row hv, .lst (SqL.of hl) (Dp.rows hL), rowD_shaped r, rowDs_shaped L, by rw [rows_any]; exact q⟩
theorem in_rows {K : PySem.W.Frag} {H : Hp} {v : V} {r : Row} {l : Addr} {us : List V} {L : List Row} {Q : VK} (hv : IsRow H v r) (hl : H l = some (.lst us)) (hL : RowsAt H us L) (q : Q (.bl (decide (r ∈ L))) H) : rInD K v (.ref l) H Q :=
  ⟨rowD r, L.map rowD, Dp.row hv, .lst (SqL.of hl) (Dp.rows hL), rowD_shaped r, rowDs_shaped L, by rw [rows_any]; exact q⟩
/-! ### all that stood stands, but for d -/
def Kp (d : Addr) (H H' : Hp) : Prop := ∀ b o, H b = some o → b ≠ d → H' b = some o
theorem Kp.refl (d : Addr) (H : Hp) : Kp d H H := fun _ _ e _ => e
theorem Kp.trans {d : Addr} {H H1 H2 : Hp} (a : Kp d H H1) (b : Kp d H1 H2) : Kp d H H2 := fun c o e h => b c o (a c o e h) h
theorem Same.kp {d : Addr} {H H' : Hp} (e : Same H H') : Kp d H H' := fun b o h _ => e b o h
theorem Kp.upd {d : Addr} {H H' : Hp} {o : HO} (a : Kp d H H') : Kp d H (upd H' d o) := fun b u e h => by rw [upd_ne h]; exact a b u e h
theorem Kp.same {d : Addr} {H0 H H' : Hp} (e : Same H0 H) (hd : H0 d = none) (a : Kp d H H') : Same H0 H' := fun b o h => a b o (e b o h) (ne_of_none h hd)
theorem Kp.row {d : Addr} {H H' : Hp} {xs : List V} (a : Kp d H H') (hd : H d = some (.lst xs)) {v : V} {r : Row} (h : IsRow H v r) : IsRow H' v r := by
  obtain ⟨b, h1, h2⟩ := h
  exact ⟨b, h1, a _ _ h2 (ne_of h2 hd (by intro z; cases z))⟩
theorem Kp.rows {d : Addr} {H H' : Hp} {xs : List V} (a : Kp d H H') (hd : H d = some (.lst xs)) {vs : List V} {L : List Row} (h : RowsAt H vs L) : RowsAt H' vs L := Paired.mapP h fun _ _ => a.row hd
theorem Kp.nats {d : Addr} {H H' : Hp} {xs : List V} (a : Kp d H H') (hd : H d = some (.lst xs)) {vs : List V} {L : List (List Nat)} (h : NatsAt H vs L) : NatsAt H' vs L :=
  Paired.mapP h fun _ _ ⟨b, h1, h2⟩ => ⟨b, h1, a _ _ h2 (ne_of h2 hd (by intro z; cases z))⟩

/-- a def of the text that others call: its promise and how it stands -/
structure Cal (P : Program) (w : World) (K : PySem.W.Frag) (mg : Str → Option Value) (base : Heap) (k : Nat) (x : Str) (f : Addr) (fd : FuncData) (ps : List Str) (sp : Sp) : Prop where
  ok : FnOk P w K mg base CX0 k f fd ps sp
  mg : mg x = some (.ref f)
  kp : PySem.W.keepIn K (.ref f) = true
  b : Binds K fd ps []
theorem hu65 {A : Around} {k : Nat} (hr : Room k A) : A.units + 65 < cLine := by
  have := hr.un
  omega
end KW
end

section
set_option Elab.async false
set_option linter.all false
set_option maxRecDepth 100000
namespace KW
open PySem L2 KM
section
variable {K : PySem.W.Frag} {mg : Str → Option Value} {base : Heap} {P : Program} {w : World}
/-! ### _law_closed -/
/-- L is what comes of the rows S, each once -/
structure IsClosure (m : Nat) (T : List Bool) (k : Nat) (S : Row → Prop) (L : List Row) : Prop where
  mem : ∀ r, r ∈ L ↔ Cl m T k S r
  nd : L.Nodup
def spClo (K : PySem.W.Frag) : Sp := fun vs H Q _ => ∃ (a : Addr) (t : V) (T : List Bool) (m k : Nat) (us : List V) (rs : List Row), vs = [.ref a, t] ∧ SqT K H a us ∧ RowsAt H us rs ∧ rs.Nodup ∧ (∀ r ∈ rs, r.length = k) ∧ rs ≠ [] ∧ k ≤ 4 ∧
  TabAt K H t T ∧ T.length = 2 ^ m ∧ Sym m T ∧ 1 ≤ m ∧ m ≤ 3 ∧
  ∀ (H' : Hp) (p : Addr) (us' : List V) (L : List Row), Same H H' → H p = none → H' p = some (.lst us') → RowsAt H' us' L → IsClosure m T k (fun r => r ∈ rs) L → Q (.ref p) H'
abbrev nClo : List Str := ["_law_rows", "_law_table_here", "_law_found", "_law_known", "_law_every", "_law_turn", "_law_more", "_law_k", "_law_some", "_law_row"]
theorem scClo : FnScope nClo ["_law_rows", "_law_table_here"] (defScope sClo) := ⟨rfl, rfl, rfl, by decide +kernel, rfl, by decide +kernel, by decide +kernel⟩
/-- what stands between two turns -/
structure Turn1 (m : Nat) (T : List Bool) (k : Nat) (rs L : List Row) (kn i : Nat) : Prop where
  nd : L.Nodup
  cl : ∀ r ∈ L, Cl m T k (fun r => r ∈ rs) r
  sub : ∀ r ∈ rs, r ∈ L
  le : kn ≤ L.length
  old : ∀ qs : List Row, qs.length = m → (∀ q ∈ qs, q ∈ L.take kn) → made T k qs ∈ L
  big : i + 1 ≤ L.length
theorem Turn1.small {m : Nat} {T : List Bool} {k : Nat} {rs L : List Row} {kn i : Nat} (t : Turn1 m T k rs L kn i) (hk : ∀ r ∈ rs, r.length = k) (h4 : k ≤ 4) : L.length ≤ 2 ^ k ∧ L.length ≤ 16 := by
  have h := rows_le (k := k) t.nd fun r hr => (t.cl r hr).len hk
  exact ⟨h, Nat.le_trans h (Nat.pow_le_pow_right (by decide) h4)⟩
theorem iteNY {c A B : Prop} [Decidable c] (hc : ¬ c) (h : A) : if (!decide c) = true then A else B := by
  rw [decide_eq_false hc]
  exact iteT h
theorem ok_clo {f fAll fCho fMade : Addr} {fd fdAll fdCho fdMade : FuncData} (F : Fun K "_law_closed" "_law_closed" sClo f fd) (T : Txt K mg) (CAll : Cal P w K mg base 1 "_law_all_rows" fAll fdAll ["_law_many"] spAll)
    (CCho : Cal P w K mg base 1 "_law_chosen" fCho fdCho ["_law_rows", "_law_table_here"] (spCho K)) (CMade : Cal P w K mg base 1 "_law_made" fMade fdMade ["_law_table_here", "_law_rows"] (spLMade K)) :
    FnOk P w K mg base CX0 2 f fd ["_law_rows", "_law_table_here"] (spClo K) := by
  refine F.ok scClo (fun vs H Q E h => ?_) (fun cdv A outer s H vs Q E hr h => ?_)
  · obtain ⟨a, t, _, _, _, _, _, rfl, _⟩ := h
    rfl
  · obtain ⟨a, t, Tb, m, k, us0, rs, rfl, hS, hR, hnd, hk, hne, hk4, hT, hTl, hsym, m1, m3, q⟩ := h
    have hu := hu65 hr
    refine ⟨_, pss_cons (ps_set (i := 2) scClo.nd rfl (.inr rfl) (pe_callTy call_list_of (by rfl) T.list (by decide +kernel) (pa_cons (pv 0) pa_nil)))
      (pss_cons (ps_set (i := 3) scClo.nd rfl (.inl rfl) (pe_int))
      (pss_cons (ps_set (i := 4) scClo.nd rfl (.inl rfl) (pe_callB call_len_seq (by rfl) T.len PySem.boot_len (pa_cons (pe_call CAll.ok hr rfl CAll.mg CAll.kp CAll.b .nil pass0 (pa_cons (pe_callB call_len_seq (by rfl) T.len PySem.boot_len (pa_cons (pe_ix ix_tup (pv 0) (pe_int) (fun _ _ => rfl)) pa_nil)) pa_nil)) pa_nil)))
      (pss_cons (ps_for PassesOwn.never rfl (pi_range1 rfl T.range (pa_cons (pe_int) pa_nil)) (pg_name (i := 5) scClo.nd rfl (.inl rfl)) (pss_cons (ps_set (i := 6) scClo.nd rfl (.inl rfl) (pe_lst (pa_nil)))
      (pss_cons (ps_for PassesOwn.never rfl (pi_list (pe_call CCho.ok hr rfl CCho.mg CCho.kp CCho.b .nil pass0 (pa_cons (pe_lc (own := [("_law_k", 7)]) (g := gName 7) (tt := tYes) rfl scClo.nd (pi_range1 rfl T.range (pa_cons (pe_callB call_len_seq (by rfl) T.len PySem.boot_len (pa_cons (pv 2) pa_nil)) pa_nil)) (blkOk_by (N := nClo) (sc := defScope sClo) (by decide +kernel)) (fun _ _ _ _ _ => pg_name (i := 7) scClo.nd rfl (.inl rfl)) (fun _ _ _ _ _ => pts_nil) (fun _ _ _ _ _ => pv 7)) (pa_cons (pv 1) pa_nil)))) (pg_name (i := 8) scClo.nd rfl (.inl rfl)) (pss_one (ps_if (pt_cmpR op_ge (pe_ix ix_tup (pv 8) (pe_un un_neg pe_int) (fun _ _ => rfl)) (pv 3) (nomark _)) (pss_cons (ps_set (i := 9) scClo.nd rfl (.inl rfl) (pe_call CMade.ok hr rfl CMade.mg CMade.kp CMade.b .nil pass0 (pa_cons (pv 1) (pa_cons (pe_lc (own := [("_law_k", 7)]) (g := gName 7) (tt := tYes) rfl scClo.nd (pi_tup (pv 8)) (blkOk_by (N := nClo) (sc := defScope sClo) (by decide +kernel)) (fun _ _ _ _ _ => pg_name (i := 7) scClo.nd rfl (.inl rfl)) (fun _ _ _ _ _ => pts_nil) (fun _ _ _ _ _ => pe_ix (r := rIxL K) ix_list (pv 2) (pv 7) (fun _ _ => rfl))) pa_nil))))
      (pss_one (ps_if (PW.pt (pw_and (pt_cmpR (op_notInD hu) (pv 9) (pv 2) (by rfl)) (pw_and1 (pt_cmpR (op_notInD hu) (pv 9) (pv 6) (by rfl))))) (pss_one (ps_expr (pe_bm PySem.F.plainAttrs_list PySem.F.slot_list_append PySem.F.type_list_append mt_append (pv 6) (pa_cons (pv 9) pa_nil)))) (pss_nil)))) (pss_nil))))
      (pss_cons (ps_set (i := 3) scClo.nd rfl (.inl rfl) (pe_callB call_len_seq (by rfl) T.len PySem.boot_len (pa_cons (pv 2) pa_nil)))
      (pss_cons (ps_set (i := 2) scClo.nd rfl (.inr rfl) (pe_op op_cat (pv 2) (pv 6)))
      (pss_one (ps_if (PW.pt (pw_or (pt_cmpR op_eq (pe_callB call_len_seq (by rfl) T.len PySem.boot_len (pa_cons (pv 6) pa_nil)) (pe_int) (nomark _)) (pw_or1 (pt_cmpR op_eq (pe_callB call_len_seq (by rfl) T.len PySem.boot_len (pa_cons (pv 2) pa_nil)) (pv 4) (nomark _))))) (pss_one (ps_ret (pv 2))) (pss_nil))))))))
      (pss_one (ps_ret (pv 2)))))), ?_⟩
    obtain ⟨ta, rfl, hta⟩ := hT
    have hul := hR.length
    -- found = list(rows)
    refine ⟨_, rfl, a, us0, rfl, .inr hS, fun p hp => ?_⟩
    have e0 : Same H (upd H p (.lst us0)) := same_new hp
    -- every = len(_law_all_rows(len(rows[0])))
    obtain ⟨u0, ut, rfl⟩ : ∃ u0 ut, us0 = u0 :: ut := by
      cases us0 with
      | nil => cases hR; exact absurd rfl hne
      | cons u0 ut => exact ⟨u0, ut, rfl⟩
    obtain ⟨r0, hr0, a0, rfl, ha0⟩ := Paired.at_ (i := 0) hR rfl
    have hr0k : r0.length = k := hk r0 (List.mem_of_getElem? hr0)
    refine ⟨_, rfl, a, _, 0, _, rfl, rfl, Same.tup e0 hS, at_of (j := 0) rfl rfl, a0, _, rfl, .inr (SqT.of (e0 _ _ ha0)), k, by rw [ro_length, hr0k]; rfl, hk4, fun H1 p1 us1 e1 hp1 hp1' hus1 => ?_⟩
    have hev : us1.length = 2 ^ k := by rw [hus1.length, allRows_length]
    refine ⟨p1, us1, rfl, .inl (SqL.of hp1'), ?_⟩
    rw [hev]
    have e01 : Same H H1 := e0.trans e1
    -- for turn in range(16)
    refine ⟨16, rfl, by decide, by decide, for_range (lo := 0) (n := 16) (fun i σ H2 => ∃ (p : Addr) (us : List V) (L : List Row) (kn : Nat) (v5 v6 v7 v8 v9 : Option V),
        σ = [some (.ref a), some (.ref ta), some (.ref p), some (.int kn), some (.int ((2 ^ k : Nat) : Int)), v5, v6, v7, v8, v9] ∧ Same H H2 ∧ H p = none ∧ H2 p = some (.lst us) ∧ RowsAt H2 us L ∧ Turn1 m Tb k rs L kn i)
      ⟨p, _, rs, 0, none, none, none, none, none, rfl, e01, hp, e1 _ _ upd_same, hR.same e01, ⟨hnd, fun r hr => .base hr, fun r hr => hr, Nat.zero_le _, fun qs hq hm => ?_, ?_⟩⟩ ?_ ?_⟩
    · match qs, hq with
      | [], hq => simp at hq; omega
      | q :: _, _ => exact absurd (hm q List.mem_cons_self) (by simp)
    · cases rs with
      | nil => exact absurd rfl hne
      | cons _ _ => simp
    · rintro i σ H2 hi ⟨p, us, L, kn, v5, v6, v7, v8, v9, rfl, e2, hp, hp2, hus, ht⟩
      obtain ⟨hL2k, hL16⟩ := ht.small hk hk4
      have husl := hus.length
      -- more = []
      refine ⟨by show 0 ≤ sizeLine; decide, fun d hd => ?_⟩
      have hd0 : H d = none := e2.free hd
      have e3 : Same H2 (upd H2 d (.lst [])) := same_new hd
      have hp3 := e3 _ _ hp2
      -- [k for k in range(len(found))]
      refine ⟨_, rfl, p, us, rfl, .inl (SqL.of hp3), (us.length : Int), rfl, by omega, by omega, fun D hD => lc_range (lo := 0) (n := (us.length : Int).toNat) (fun j H4 => Same (upd H2 d (.lst [])) H4 ∧ H4 D = some (.lst ((List.range j).map nv)))
        ⟨same_new hD, upd_same⟩ ?_ ?_⟩
      · rintro j H4 hj ⟨e4, h4⟩
        refine ⟨rfl, _, rfl, _, h4, ?_, same_upd e4 hD, ?_⟩
        · rw [List.length_map, List.length_range, sizeLine_eq]; omega
        · rw [upd_same, List.range_succ, List.map_append]
          simp [nv]
      · rintro H4 ⟨e4, h4⟩
        rw [Int.toNat_natCast, husl] at h4
        -- _law_chosen(..)
        refine ⟨_, rfl, D, .ref ta, Tb, L.length, m, rfl, SqL.of h4, hL16, ⟨ta, rfl, Same.tup (e2.trans (e3.trans e4)) hta⟩, hTl, m1, m3, fun H5 c cs e5 hc hc5 hcs => ?_⟩
        have e35 : Same H2 H5 := e3.trans (e4.trans e5)
        have hd5 : H5 d = some (.lst []) := e5 _ _ (e4 _ _ upd_same)
        have hdc : c ≠ d := fun z => by rw [z, e4 _ _ upd_same] at hc; cases hc
        have hpd : p ≠ d := ne_of_none hp2 hd
        -- for some in ..
        refine ⟨c, rfl, ⟨cs, SqL.of hc5⟩, for_list (K := K) (a := c) (xs := cs) (fun j σ H6 => ∃ (ws : List V) (M : List Row) (v7 v8 v9 : Option V),
            σ = [some (.ref a), some (.ref ta), some (.ref p), some (.int kn), some (.int ((2 ^ k : Nat) : Int)), some (.int (0 + (i : Int))), some (.ref d), v7, v8, v9] ∧ Kp d H5 H6 ∧ H6 d = some (.lst ws) ∧ RowsAt H6 ws M ∧
            (L ++ M).Nodup ∧ (∀ r ∈ M, Cl m Tb k (fun r => r ∈ rs) r) ∧ ∀ t ∈ (chosenL L.length m).take j, ∀ l, t.getLast? = some l → kn ≤ l → made Tb k (t.map fun i => L.getD i []) ∈ L ++ M)
          ⟨[], [], v7, v8, v9, rfl, Kp.refl d H5, hd5, .nil, by rw [List.append_nil]; exact ht.nd, fun r hr => absurd hr (by simp), fun t hm => absurd hm (by simp)⟩ (fun j σ H6 _ ⟨_, _, _, _, _, _, e6, _⟩ => SqL.of (e6 _ _ hc5 hdc)) ?_ ?_⟩
        · rintro j y σ H6 hj ⟨ws, M, v7, v8, v9, rfl, e6, hd6, hM, hnd6, hcl6, hnew⟩
          obtain ⟨t, ht', b, rfl, hb⟩ := Paired.at_ hcs hj
          obtain ⟨tl, tlt, tasc⟩ := mem_chosenL.mp (List.mem_of_getElem? ht')
          have hb6 : H6 b = some (.tup (t.map nv)) := e6 _ _ hb (ne_of hb hd5 (by intro z; cases z))
          obtain ⟨l, hl⟩ : ∃ l, t.getLast? = some l := by
            cases hg : t.getLast? with
            | some l => exact ⟨l, rfl⟩
            | none =>
              have : t = [] := List.getLast?_eq_none_iff.mp hg
              subst this
              simp at tl
              omega
          have hML : M.length ≤ 16 := by
            have h1 := rows_le (k := k) hnd6 fun r hr => (List.mem_append.mp hr).elim (fun h => (ht.cl r h).len hk) fun h => (hcl6 r h).len hk
            rw [List.length_append] at h1
            have h2 : 2 ^ k ≤ 16 := Nat.pow_le_pow_right (n := 2) (by decide) hk4
            omega
          -- what a turn leaves: nothing new, or the row
          have stay : ∀ (H8 : Hp), Kp d H5 H8 → H8 d = some (.lst ws) → RowsAt H8 ws M → (kn ≤ l → made Tb k (t.map fun i => L.getD i []) ∈ L ++ M) → Kp d H5 H8 ∧ H8 d = some (.lst ws) ∧ RowsAt H8 ws M ∧
              (L ++ M).Nodup ∧ (∀ r ∈ M, Cl m Tb k (fun r => r ∈ rs) r) ∧ ∀ t ∈ (chosenL L.length m).take (j + 1), ∀ l, t.getLast? = some l → kn ≤ l → made Tb k (t.map fun i => L.getD i []) ∈ L ++ M := by
            intro H8 k8 d8 m8 hin
            refine ⟨k8, d8, m8, hnd6, hcl6, fun t' ht2 l' hl' hle => ?_⟩
            rw [take_snoc ht'] at ht2
            rcases List.mem_append.mp ht2 with h | h
            · exact hnew t' h l' hl' hle
            · obtain rfl : t' = t := by simpa using h
              rw [hl] at hl'
              cases hl'
              exact hin hle
          have hus5 := hus.same e35
          have hp6 : H6 p = some (.lst us) := e6 _ _ (e35 _ _ hp2) hpd
          have hus6 : RowsAt H6 us L := e6.rows hd5 hus5
          -- if some[-1] >= known
          refine ⟨_, rfl, _, rfl, b, _, _, _, rfl, rfl, SqT.of hb6, last_at hl, _, rfl, _, _, rfl, rfl, _, rfl, ?_⟩
          refine ite2 (fun c => ?_) (fun c => ?_)
          · -- row = _law_made(table, [found[k] for k in some])
            refine ⟨_, rfl, _, rfl, b, rfl, ⟨_, SqT.of hb6⟩, fun D2 hD2 => lc_tup (K := K) (a := b) (xs := t.map nv) (fun i H7 => Same H6 H7 ∧ ∃ acc, H7 D2 = some (.lst acc) ∧ RowsAt H7 acc ((t.take i).map fun i => L.getD i []))
              ⟨same_new hD2, [], upd_same, .nil⟩ (fun i H7 _ ⟨e7, _⟩ => SqT.of (e7 _ _ hb6)) ?_ ?_⟩
            · rintro i' x H7 hi' ⟨e7, acc, hacc, hra⟩
              obtain ⟨e, he, rfl⟩ := map_at hi'
              have heL : e < L.length := tlt e (List.mem_of_getElem? he)
              have hLe : L[e]? = some L[e] := by simp [heL]
              obtain ⟨u, hu', hru⟩ := Paired.at' (hus6.same e7) hLe
              have hal : acc.length ≤ 3 := by
                rw [hra.length, List.length_map, List.length_take]
                omega
              have kk : Kp D2 H7 (upd H7 D2 (.lst (acc ++ [u]))) := (Kp.refl D2 H7).upd
              refine ⟨rfl, _, rfl, _, rfl, p, us, _, u, rfl, rfl, SqL.of (e7 _ _ hp6), atI_nat hu', acc, hacc, by rw [sizeLine_eq]; omega, same_upd e7 hD2, _, upd_same, ?_⟩
              rw [take_snoc he, List.map_append]
              refine (kk.rows hacc hra).append (.cons ?_ .nil)
              have eg : L.getD e [] = L[e] := by simp [List.getD, heL]
              show IsRow _ _ (L.getD e [])
              rw [eg]
              exact kk.row hacc hru
            · rintro H7 ⟨e7, acc, hacc, hra⟩
              have hqs : (t.take (t.map nv).length).map (fun i => L.getD i []) = t.map fun i => L.getD i [] := by rw [List.length_map, List.take_length]
              rw [hqs] at hra
              have hqL : ∀ r ∈ t.map (fun i => L.getD i []), r ∈ L := fun r hr => by
                obtain ⟨e, he, rfl⟩ := List.mem_map.mp hr
                have := tlt e he
                simp [List.getD, this]
              refine ⟨.ref ta, D2, Tb, acc, _, m, k, rfl, ⟨ta, rfl, ?_⟩, SqL.of hacc, hra, by rw [List.length_map]; exact tl, m1, m3, hTl, fun r hr => (ht.cl r (hqL r hr)).len hk, hk4, fun H8 u8 e8 h8 => ?_⟩
              · have z := Same.tup (K := K) (e2.trans e35) hta
                have z6 : Same H2 H6 := e6.same e35 hd
                exact Same.tup e7 (Same.tup z6 (Same.tup e2 hta))
              have e68 : Same H6 H8 := e7.trans e8
              have k8 : Kp d H5 H8 := e6.trans (Same.kp e68)
              have hd8 := e68 _ _ hd6
              have hM8 := hM.same e68
              generalize hrow : made Tb k (t.map fun i => L.getD i []) = row at *
              have hcl : Cl m Tb k (fun r => r ∈ rs) row := by
                rw [← hrow]
                exact .step (by rw [List.length_map]; exact tl) fun r hr => ht.cl r (hqL r hr)
              -- if row not in found and row not in more
              refine ⟨_, rfl, _, rfl, notin_rows h8 (e68 _ _ hp6) (hus6.same e68) ⟨_, rfl, ?_⟩⟩
              by_cases c1 : row ∈ L
              · refine iteNS c1 (iteF ?_)
                exact ⟨ws, M, v7, _, _, rfl, stay H8 k8 hd8 hM8 fun _ => List.mem_append_left _ c1⟩
              · refine iteNY c1 ?_
                refine ⟨_, rfl, _, rfl, notin_rows h8 hd8 hM8 ⟨_, rfl, ?_⟩⟩
                by_cases c2 : row ∈ M
                · refine iteNS c2 ?_
                  exact ⟨ws, M, v7, _, _, rfl, stay H8 k8 hd8 hM8 fun _ => List.mem_append_right _ c2⟩
                · refine iteNY c2 ?_
                  have kk : Kp d H8 (upd H8 d (.lst (ws ++ [u8]))) := (Kp.refl d H8).upd
                  refine ⟨_, rfl, .inl ⟨rfl, _, SqL.of hd8⟩, _, rfl, d, ws, _, rfl, rfl, hd8, ?_, ?_⟩
                  · rw [hM.length, sizeLine_eq]; omega
                  · refine ⟨ws ++ [u8], M ++ [row], v7, _, _, rfl, k8.trans kk, upd_same, (kk.rows hd8 hM8).append (.cons (kk.row hd8 h8) .nil), ?_, fun r hr => ?_, fun t' ht2 l' hl' hle => ?_⟩
                    · rw [← List.append_assoc]
                      refine List.nodup_append.mpr ⟨hnd6, by simp, fun r hr r' hr' e => ?_⟩
                      have er' : r' = row := by simpa using hr'
                      subst er'
                      subst e
                      exact (List.mem_append.mp hr).elim c1 c2
                    · rcases List.mem_append.mp hr with h | h
                      · exact hcl6 r h
                      · obtain rfl : r = row := by simpa using h
                        exact hcl
                    · rw [take_snoc ht'] at ht2
                      rw [← List.append_assoc]
                      rcases List.mem_append.mp ht2 with h | h
                      · exact List.mem_append_left _ (hnew t' h l' hl' hle)
                      · obtain rfl : t' = t := by simpa using h
                        rw [hrow]
                        simp
          · have c' : ¬ ((kn : Int) ≤ (l : Int)) := fun h => c (decide_eq_true h)
            exact ⟨ws, M, v7, _, _, rfl, stay H6 e6 hd6 hM fun hle => absurd (show (kn : Int) ≤ (l : Int) by omega) c'⟩
        · rintro σ H6 ⟨ws, M, v7, v8, v9, rfl, e6, hd6, hM, hnd6, hcl6, hnew⟩
          rw [Paired.length hcs, List.take_length] at hnew
          have key := turn_closed (L := L) (M := M) hsym m1 ht.old hnew
          have hp6 : H6 p = some (.lst us) := e6 _ _ (e35 _ _ hp2) hpd
          have hus6 : RowsAt H6 us L := e6.rows hd5 (hus.same e35)
          have e26 : Same H2 H6 := e6.same e35 hd
          have hcl : ∀ r ∈ L ++ M, Cl m Tb k (fun r => r ∈ rs) r := fun r hr => (List.mem_append.mp hr).elim (ht.cl r) (hcl6 r)
          have hLM : (L ++ M).length ≤ 2 ^ k := rows_le hnd6 fun r hr => (hcl r hr).len hk
          have h2k : 2 ^ k ≤ 16 := Nat.pow_le_pow_right (n := 2) (by decide) hk4
          have hwl := hM.length
          -- known = len(found); found = found + more
          refine ⟨_, rfl, p, us, rfl, .inl (SqL.of hp6), _, rfl, _, rfl, p, d, us, ws, rfl, rfl, hp6, hd6, ?_, fun p' hp' => ?_⟩
          · rw [husl, hwl, sizeLine_eq]
            rw [List.length_append] at hLM
            omega
          have e7 : Same H6 (upd H6 p' (.lst (us ++ ws))) := same_new hp'
          have hUW : RowsAt (upd H6 p' (.lst (us ++ ws))) (us ++ ws) (L ++ M) := (hus6.append hM).same e7
          have eH : Same H (upd H6 p' (.lst (us ++ ws))) := e2.trans (e26.trans e7)
          have hp'0 : H p' = none := e2.free (e26.free hp')
          have fin : (∀ r, Cl m Tb k (fun r => r ∈ rs) r → r ∈ L ++ M) → Q (.ref p') (upd H6 p' (.lst (us ++ ws))) := fun h => q _ p' _ _ eH hp'0 upd_same hUW ⟨fun r => ⟨hcl r, h r⟩, hnd6⟩
          refine ⟨_, rfl, d, ws, rfl, .inl (SqL.of (e7 _ _ hd6)), rfl, _, rfl, ?_⟩
          refine ite2 (fun c => ?_) (fun c => ?_)
          · -- nothing new
            have c' := of_decide_eq_true c
            injection c' with c'
            have hM0 : M = [] := List.length_eq_zero_iff.mp (by omega)
            refine ⟨_, rfl, fin fun r hr => hr.mem (fun qs h1 h2 => ?_) fun r h => List.mem_append_left _ (ht.sub r h)⟩
            subst hM0
            rw [List.append_nil] at key h2 ⊢
            exact key qs h1 h2
          · refine ⟨_, rfl, p', _, rfl, .inl (SqL.of upd_same), _, rfl, rfl, _, rfl, ?_⟩
            have hlen : (us ++ ws).length = (L ++ M).length := by rw [List.length_append, List.length_append, husl, hwl]
            refine ite2 (fun c2 => ?_) (fun c2 => ?_)
            · -- all rows there are
              have c' := of_decide_eq_true c2
              injection c' with c'
              have hz : (L ++ M).length = 2 ^ k := by rw [← hlen]; omega
              exact ⟨_, rfl, fin fun r hr => rows_all hnd6 (fun r hr => (hcl r hr).len hk) hz (hr.len hk)⟩
            · refine ⟨p', us ++ ws, L ++ M, us.length, _, _, _, _, _, rfl, eH, hp'0, upd_same, hUW, ⟨hnd6, hcl, fun r hr => List.mem_append_left _ (ht.sub r hr), ?_, fun qs h1 h2 => ?_, ?_⟩⟩
              · rw [husl, List.length_append]; omega
              · rw [husl, List.take_left'] at h2
                · exact key qs h1 h2
                · rfl
              · have hw : ws.length ≠ 0 := fun h => c (decide_eq_true (by rw [h]; rfl))
                have := ht.big
                rw [List.length_append]
                omega
    · rintro σ H2 ⟨p, us, L, kn, v5, v6, v7, v8, v9, rfl, e2, hp, hp2, hus, ht⟩
      have h1 := (ht.small hk hk4).2
      have h2 := ht.big
      omega
end
end KW
end

section
set_option Elab.async false
set_option linter.all false
set_option maxRecDepth 100000
namespace KW
open PySem L2 KM
theorem filt_more {L : List Row} {i : Nat} {x : Row} (p : Row → Bool) (h : L[i]? = some x) : (L.take (i + 1)).filter p = (L.take i).filter p ++ (if p x = true then [x] else []) := by
  rw [take_snoc h, List.filter_append]
  congr 1
  by_cases c : p x = true
  · simp [c]
  · simp [c]
/-- rows of one size, each once, in order -/
structure Drawn (k : Nat) (rs : List Row) : Prop where
  k1 : 1 ≤ k
  k4 : k ≤ 4
  asc : Asc rs
  ne : rs ≠ []
  len : ∀ r ∈ rs, r.length = k
theorem Drawn.small {k : Nat} {rs : List Row} (h : Drawn k rs) : rs.length ≤ 16 := Nat.le_trans (rows_le (asc_nodup h.asc) h.len) (Nat.pow_le_pow_right (n := 2) (by decide) h.k4)
section
variable {K : PySem.W.Frag} {mg : Str → Option Value} {base : Heap} {P : Program} {w : World}
theorem HandAt.ne {H : Hp} {a dd : Addr} (h : HandAt H a dd) : a ≠ dd := by
  obtain ⟨n, ns, h1, h2, _⟩ := h
  rintro rfl
  rw [h1] at h2
  have e := Option.some.inj h2
  injection e with e
  match ns, e with
  | [x, y], e => simp at e
theorem HandAt.upd {H : Hp} {a dd p : Addr} {o : HO} (h : HandAt H a dd) (h1 : p ≠ a) (h2 : p ≠ dd) : HandAt (upd H p o) a dd := by
  obtain ⟨n, ns, q1, q2, h3⟩ := h
  exact ⟨n, ns, by rw [upd_ne (Ne.symm h1)]; exact q1, by rw [upd_ne (Ne.symm h2)]; exact q2, h3⟩
theorem HandAt.same {H H' : Hp} {a dd : Addr} (h : HandAt H a dd) (e : Same H H') : HandAt H' a dd := by
  obtain ⟨n, ns, h1, h2, h3⟩ := h
  exact ⟨n, ns, e _ _ h1, e _ _ h2, h3⟩
theorem HandAt.free {H : Hp} {a dd p : Addr} (h : HandAt H a dd) (hp : H p = none) : p ≠ a ∧ p ≠ dd := by
  obtain ⟨n, ns, h1, h2, h3⟩ := h
  exact ⟨fun z => (by rw [z, h1] at hp; cases hp), fun z => (by rw [z, h2] at hp; cases hp)⟩
/-! ### _law_any -/
def spAny : Sp := fun vs H Q _ => ∃ a dd : Addr, vs = [.ref a] ∧ HandAt H a dd ∧
  ∀ (H' : Hp) (p t : Addr) (us : List V) (k : Nat) (rs : List Row), HandAt H' a dd → Kp a H H' → H' p = some (.tup [.int k, .ref t]) → H' t = some (.tup us) → RowsAt H' us rs → Drawn k rs → Q (.ref p) H'
abbrev nAny : List Str := ["_law_hand", "_law_size", "_law_every", "_law_rows", "_law_k", "_law_row"]
theorem scAny : FnScope nAny ["_law_hand"] (defScope sAny) := ⟨rfl, rfl, rfl, by decide +kernel, rfl, by decide +kernel, by decide +kernel⟩
theorem ok_any {f fAll fTake : Addr} {fd fdAll fdTake : FuncData} (F : Fun K "_law_any" "_law_any" sAny f fd) (T : Txt K mg) (CAll : Cal P w K mg base 1 "_law_all_rows" fAll fdAll ["_law_many"] spAll)
    (CTake : Cal P w K mg base 1 "_law_take" fTake fdTake ["_law_hand", "_law_many"] spTake) : FnOk P w K mg base CX0 2 f fd ["_law_hand"] spAny := by
  refine F.ok scAny (fun vs H Q E h => ?_) (fun cdv A outer s H vs Q E hr h => ?_)
  · obtain ⟨a, dd, rfl, _⟩ := h
    rfl
  · obtain ⟨a, dd, rfl, hH, q⟩ := h
    have hu := hu65 hr
    refine ⟨_, pss_cons (ps_set (i := 1) scAny.nd rfl (.inl rfl) (pe_op op_add (pe_int) (pe_call CTake.ok hr rfl CTake.mg CTake.kp CTake.b .nil pass0 (pa_cons (pv 0) (pa_cons (pe_int) pa_nil)))))
      (pss_cons (ps_set (i := 2) scAny.nd rfl (.inl rfl) (pe_call CAll.ok hr rfl CAll.mg CAll.kp CAll.b .nil pass0 (pa_cons (pv 1) pa_nil)))
      (pss_cons (ps_set (i := 3) scAny.nd rfl (.inr rfl) (pe_lst (pa_nil)))
      (pss_cons (ps_for PassesOwn.never rfl (pi_range1 rfl T.range (pa_cons (pe_ix ix_list (pe_lst (pa_cons (pe_op op_add (pe_int) (pe_call CTake.ok hr rfl CTake.mg CTake.kp CTake.b .nil pass0 (pa_cons (pv 0) (pa_cons (pe_int) pa_nil)))) (pa_cons (pe_op op_add (pe_int) (pe_call CTake.ok hr rfl CTake.mg CTake.kp CTake.b .nil pass0 (pa_cons (pv 0) (pa_cons (pe_int) pa_nil)))) (pa_cons (pe_op op_add (pe_int) (pe_call CTake.ok hr rfl CTake.mg CTake.kp CTake.b .nil pass0 (pa_cons (pv 0) (pa_cons (pe_int) pa_nil)))) pa_nil)))) (pe_call CTake.ok hr rfl CTake.mg CTake.kp CTake.b .nil pass0 (pa_cons (pv 0) (pa_cons (pe_int) pa_nil))) (fun _ _ => rfl)) pa_nil)) (pg_name (i := 4) scAny.nd rfl (.inl rfl)) (pss_one (ps_expr (pe_bm PySem.F.plainAttrs_list PySem.F.slot_list_append PySem.F.type_list_append mt_append (pv 3) (pa_cons (pe_ix ix_list (pv 2) (pe_call CTake.ok hr rfl CTake.mg CTake.kp CTake.b .nil pass0 (pa_cons (pv 0) (pa_cons (pe_callB call_len_seq (by rfl) T.len PySem.boot_len (pa_cons (pv 2) pa_nil)) pa_nil))) (fun _ _ => rfl)) pa_nil)))))
      (pss_one (ps_ret (pe_tup (pa_cons (pv 1) (pa_cons (pe_callTy call_tuple_of (by rfl) T.tuple (by decide +kernel) (pa_cons (pe_lc (own := [("_law_row", 5)]) (g := gName 5) (tt := tTest (tOp (rInD K) (tVar 5) (tVar 3))) rfl scAny.nd (pi_list (pv 2)) (blkOk_by (N := nAny) (sc := defScope sAny) (by decide +kernel)) (fun _ _ _ _ _ => pg_name (i := 5) scAny.nd rfl (.inl rfl)) (fun _ _ _ _ _ => pts_one (pt_cmpR (op_inD hu) (pv 5) (pv 3) (by rfl))) (fun _ _ _ _ _ => pv 5)) pa_nil)) pa_nil)))))))), ?_⟩
    -- size = 1 + take
    refine ⟨_, rfl, a, dd, 4, rfl, hH, by decide, fun i1 H1 l1 g1 hH1 k1 => ?_⟩
    refine ⟨_, _, rfl, rfl, ?_⟩
    obtain ⟨k, hk⟩ : ∃ k : Nat, 1 + i1 = (k : Int) := ⟨(1 + i1).toNat, by omega⟩
    have hk1 : 1 ≤ k := by omega
    have hk4 : k ≤ 4 := by omega
    -- every
    refine ⟨_, rfl, k, by rw [← hk]; rfl, hk4, fun H2 p us e2 hp hp2 hus => ?_⟩
    have hH2 := hH1.same e2
    have hul : us.length = 2 ^ k := by rw [hus.length, allRows_length]
    have h2k : 2 ^ k ≤ 16 := Nat.pow_le_pow_right (n := 2) (by decide) hk4
    have h2k1 : 1 ≤ 2 ^ k := Nat.one_le_two_pow
    -- rows = []
    refine ⟨by show 0 ≤ sizeLine; decide, fun d hd => ?_⟩
    have e3 : Same H2 (upd H2 d (.lst [])) := same_new hd
    have hH3 := hH2.same e3
    -- the count
    refine ⟨_, rfl, a, dd, 4, rfl, hH3, by decide, fun i2 H4 l2 g2 hH4 k4 => ?_⟩
    refine ⟨_, _, rfl, rfl, _, rfl, a, dd, 4, rfl, hH4, by decide, fun i3 H5 l3 g3 hH5 k5 => ?_⟩
    refine ⟨_, _, rfl, rfl, _, rfl, a, dd, 9, rfl, hH5, by decide, fun i4 H6 l4 g4 hH6 k6 => ?_⟩
    refine ⟨_, _, rfl, rfl, by show 3 ≤ sizeLine; decide, fun q0 hq0 => ?_⟩
    have e7 : Same H6 (upd H6 q0 (.lst [.int (1 + i2), .int (1 + i3), .int (1 + i4)])) := same_new hq0
    have hH7 := hH6.same e7
    refine ⟨_, rfl, a, dd, 3, rfl, hH7, by decide, fun i5 H8 l5 g5 hH8 k8 => ?_⟩
    have hq8 : H8 q0 = some (.lst [.int (1 + i2), .int (1 + i3), .int (1 + i4)]) := k8 _ _ upd_same (hH6.free hq0).1
    obtain ⟨c, hc1, hc9, hcat⟩ : ∃ c : Nat, 1 ≤ c ∧ c ≤ 9 ∧ atI [V.int (1 + i2), V.int (1 + i3), V.int (1 + i4)] i5 = some (.int (c : Int)) := by
      obtain ⟨n, rfl⟩ : ∃ n : Nat, i5 = (n : Int) := ⟨i5.toNat, by omega⟩
      match n, g5 with
      | 0, _ => exact ⟨(1 + i2).toNat, by omega, by omega, by rw [Int.toNat_of_nonneg (by omega)]; rfl⟩
      | 1, _ => exact ⟨(1 + i3).toNat, by omega, by omega, by rw [Int.toNat_of_nonneg (by omega)]; rfl⟩
      | 2, _ => exact ⟨(1 + i4).toNat, by omega, by omega, by rw [Int.toNat_of_nonneg (by omega)]; rfl⟩
      | n + 3, g => omega
    refine ⟨q0, _, _, _, rfl, rfl, SqL.of hq8, hcat, (c : Int), rfl, by omega, by omega, ?_⟩
    have kA2 : Kp a H H2 := Kp.trans k1 (Same.kp e2)
    have kA3 : Kp a H (upd H2 d (.lst [])) := kA2.trans (Same.kp e3)
    have kA8 : Kp a H H8 := ((((kA3.trans k4).trans k5).trans k6).trans (Same.kp e7)).trans k8
    have k38 : Kp a (upd H2 d (.lst [])) H8 := (((Kp.trans k4 k5).trans k6).trans (Same.kp e7)).trans k8
    obtain ⟨n0, _, ha3, _⟩ := id hH3.at_
    have hp3 : upd H2 d (.lst []) p = some (.lst us) := e3 _ _ hp2
    have hus3 := hus.same e3
    have npa : p ≠ a := (hH1.free hp).1
    have nda : d ≠ a := (hH2.free hd).1
    have ndd : d ≠ dd := (hH2.free hd).2
    have ndp : p ≠ d := fun z => by rw [z, hd] at hp2; cases hp2
    have hd0 : H d = none := by
      cases e : H d with
      | none => rfl
      | some o => have := kA2 _ _ e nda; rw [hd] at this; cases this
    have ct : ((c : Int)).toNat = c := Int.toNat_natCast c
    rw [ct]
    refine for_range (lo := 0) (n := c) (fun i σ H9 => ∃ (ws : List V) (M : List Row) (v4 v5 : Option V), σ = [some (.ref a), some (.int (1 + i1)), some (.ref p), some (.ref d), v4, v5] ∧ HandAt H9 a dd ∧ Kp a H H9 ∧
        H9 p = some (.lst us) ∧ RowsAt H9 us (allRows k) ∧ H9 d = some (.lst ws) ∧ RowsAt H9 ws M ∧ M.length = i ∧ ∀ r ∈ M, r ∈ allRows k)
      ⟨[], [], none, none, rfl, hH8, kA8, k38 _ _ hp3 npa, Kp.rows k38 ha3 hus3, k38 _ _ upd_same nda, .nil, rfl, fun r h => absurd h (by simp)⟩ ?_ ?_
    · rintro i σ H9 hi ⟨ws, M, v4, v5, rfl, hH9, kA9, hp9, hus9, hd9, hM, hMl, hMa⟩
      obtain ⟨_, _, ha9, _⟩ := id hH9.at_
      refine ⟨_, rfl, .inl ⟨rfl, _, SqL.of hd9⟩, _, rfl, _, rfl, _, rfl, p, us, rfl, .inl (SqL.of hp9), a, dd, (us.length : Int), rfl, hH9, by omega, fun j H10 lj gj hH10 k10 => ?_⟩
      obtain ⟨jn, rfl⟩ : ∃ n : Nat, j = (n : Int) := ⟨j.toNat, by omega⟩
      have hjl : jn < us.length := by omega
      obtain ⟨r, hr, hru⟩ := Paired.at_ hus9 (i := jn) (x := us[jn]) (by simp [hjl])
      have hp10 : H10 p = some (.lst us) := k10 _ _ hp9 npa
      have hd10 : H10 d = some (.lst ws) := k10 _ _ hd9 nda
      have hM10 : RowsAt H10 ws M := Kp.rows k10 ha9 hM
      have hus10 := Kp.rows k10 ha9 hus9
      have kd : Kp d H10 (upd H10 d (.lst (ws ++ [us[jn]]))) := (Kp.refl d H10).upd
      refine ⟨p, us, _, us[jn], rfl, rfl, SqL.of hp10, atI_nat (by simp [hjl]), d, ws, _, rfl, rfl, hd10, ?_, ?_⟩
      · rw [hM.length, sizeLine_eq]; omega
      · refine ⟨ws ++ [us[jn]], M ++ [r], _, v5, rfl, hH10.upd nda ndd, fun b o hb hba => ?_, ?_, kd.rows hd10 hus10, upd_same, (kd.rows hd10 hM10).append (.cons (kd.row hd10 (Kp.row k10 ha9 hru)) .nil), ?_, ?_⟩
        · rw [upd_ne (ne_of_none hb hd0)]
          exact k10 _ _ (kA9 _ _ hb hba) hba
        · rw [upd_ne ndp]; exact hp10
        · rw [List.length_append, hMl]; rfl
        · intro r' hr'
          rcases List.mem_append.mp hr' with h | h
          · exact hMa r' h
          · obtain rfl : r' = r := by simpa using h
            exact List.mem_of_getElem? hr
    · rintro σ H9 ⟨ws, M, v4, v5, rfl, hH9, kA9, hp9, hus9, hd9, hM, hMl, hMa⟩
      -- the rows drawn, each once, in order
      refine ⟨_, rfl, _, rfl, p, rfl, ⟨us, SqL.of hp9⟩, fun D hD => lc_list (K := K) (a := p) (xs := us) (fun i H11 => Same H9 H11 ∧ ∃ acc, H11 D = some (.lst acc) ∧ RowsAt H11 acc (((allRows k).take i).filter fun r => decide (r ∈ M)))
        ⟨same_new hD, [], upd_same, .nil⟩ (fun i H11 _ ⟨e11, _⟩ => SqL.of (e11 _ _ hp9)) ?_ ?_⟩
      · rintro i x H11 hi ⟨e11, acc, hacc, hra⟩
        obtain ⟨r, hr, hru⟩ := Paired.at_ hus9 hi
        have hal : acc.length ≤ 16 := by
          rw [hra.length]
          refine Nat.le_trans (List.length_filter_le _ _) ?_
          rw [List.length_take, allRows_length]
          omega
        refine ⟨rfl, _, rfl, _, rfl, in_rows (hru.same e11) (e11 _ _ hd9) (hM.same e11) ⟨_, rfl, ?_⟩⟩
        have fm := filt_more (fun r => decide (r ∈ M)) hr
        refine ite2 (fun c => ?_) (fun c => ?_)
        · have kk : Kp D H11 (upd H11 D (.lst (acc ++ [x]))) := (Kp.refl D H11).upd
          refine ⟨_, rfl, acc, hacc, by rw [sizeLine_eq]; omega, same_upd e11 hD, _, upd_same, ?_⟩
          rw [fm, if_pos c]
          exact (kk.rows hacc hra).append (.cons (kk.row hacc (hru.same e11)) .nil)
        · refine ⟨e11, acc, hacc, ?_⟩
          rw [fm, if_neg c, List.append_nil]
          exact hra
      · rintro H11 ⟨e11, acc, hacc, hra⟩
        rw [hus.length, List.take_length] at hra
        refine ⟨D, acc, rfl, .inl ⟨SqL.of hacc, fun t ht => ?_⟩⟩
        have e12 : Same H11 (upd H11 t (.tup acc)) := same_new ht
        refine ⟨by show 2 ≤ sizeLine; decide, fun P2 hP2 => ?_⟩
        have e13 := same_new (o := .tup [.int (1 + i1), .ref t]) hP2
        have e9 := (e11.trans e12).trans e13
        refine q _ P2 t acc k _ (hH9.same e9) (kA9.trans (Same.kp e9)) (by rw [upd_same, hk]) (e13 _ _ upd_same) (hra.same (e12.trans e13)) ⟨hk1, hk4, asc_filter _ (asc_allRows k), fun hz => ?_, fun r hr => mem_allRows.mp (List.mem_filter.mp hr).1⟩
        cases M with
        | nil => simp at hMl; omega
        | cons r M =>
          have : r ∈ (allRows k).filter fun x => decide (x ∈ r :: M) := List.mem_filter.mpr ⟨hMa r List.mem_cons_self, by simp⟩
          rw [hz] at this
          cases this
end
end KW
end

section
set_option Elab.async false
set_option linter.all false
set_option maxRecDepth 100000
set_option maxHeartbeats 2500000
namespace KW
open PySem PySem.Spec PyProof.Rows L2 KM
/-! a dict comprehension whose keys are tuples -/
section
variable {X : Cx} {pins : List (Addr × Obj)} {σ : L2.St} {H : Hp} {s : Shared}
/-- the comprehension's own store -/
theorem tput_ok {D b : Addr} {kvs : List (List L2.Key × V)} {k : List L2.Key} {v : V} {r : Value} {Q : Unit → Shared → Prop} {E : Value → Shared → Prop} (hu : X.A.units < cLine) (I : L2.Inv X pins σ H s) (hD : H D = some (.dT kvs))
    (hb : H b = some (.tup (k.map kV))) (hz : kvs.length < sizeLine) (rv : RelV v r) (go : ∀ s', L2.Inv X pins σ (upd H D (.dT (putK kvs k v))) s' → Q () s') : wpAny (model X.prog X.w) X.A (dictSet D (.ref b) r) Q E s := by
  obtain ⟨z, lo, xs, rel, dd⟩ := dt_of I.hok hD
  have zx : xs.length ≤ sizeLine := Paired.length rel ▸ z
  have zn : (putK kvs k v).length ≤ sizeLine := Nat.le_trans (length_putK kvs k v) hz
  refine wpAny_dictSet_heap (knd := tupleKind (mixKind X.prog X.w)) (hsz := zx) hu (key_of I.hok hb) dd fun h' dn sb => go _ ?_
  obtain ⟨q, es, ep, a1, a2, a3, a4, _, a5⟩ := dn
  have tups : ∀ c ys, H c = some (.tup ys) → upd H D (.dT (putK kvs k v)) c = some (.tup ys) := fun c ys e => by
    rw [upd_ne (ne_of e hD (fun z => nomatch z))]
    exact e
  exact d_write I (by rw [hD]; exact True.intro) sb ⟨q, a1⟩ ⟨zn, lo, _, (rel.put k hb rv).keeps tups, q, es, ep, a1, a2, a3, a4, a5⟩
end
section
variable {X : Cx}
/-- one turn's end: key, value, the store -/
def tPut (tk tv : TE) (D : Addr) : L2.St → Hp → (Hp → Prop) → Prop := fun σ H Nx => tk σ H fun y H4 => tv σ H4 fun z H5 => ∃ (b : Addr) (kvs : List (List L2.Key × V)) (k : List L2.Key), y = .ref b ∧ H5 D = some (.dT kvs) ∧ H5 b = some (.tup (k.map kV)) ∧ kvs.length < sizeLine ∧ Nx (upd H5 D (.dT (putK kvs k z)))
/-- {k: v for target in iter if ..}, keys tuples of ints and texts -/
def tDt (wi : TI) (g : TG) (tt : TT) (tk tv : TE) (vs : List Nat) : TE := fun σ H Q => wi σ H fun J H1 => ∀ D, H1 D = none → ∃ W : Nat → Nat → Hp → Prop, (∃ m, W 0 m (upd H1 D (.dT []))) ∧ ∀ j n H2, W j n H2 →
  (J.stop j H2 ∧ Q (.ref D) H2) ∨ (J.go j H2 ∧ ∃ Nx : Hp → Prop, (∀ H3, Nx H3 → ∃ n', n' < n ∧ W (j + 1) n' H3) ∧ ∀ x H3, J.yld j H2 x H3 → g x (wipe σ vs) H3 fun σ4 H4 => wipe σ4 vs = wipe σ vs ∧ tt σ4 H4 fun b H5 =>
    if b = true then tPut tk tv D σ4 H5 Nx else Nx H5)
abbrev InBlk (X : Cx) (scope : Scope) (F : Cx → Prop) : Prop := ∀ (s : Shared) (H : Hp) (C : Addr) (cl : List (Str × Addr)) (fp : List Addr), F (X.blk s H scope (compEnvC scope cl C X.env) fp)
theorem dt_core {pins : List (Addr × Obj)} {s : Shared} {σ : L2.St} {H : Hp} {Q : VK} {kx vx tg iter : Expr} {ifs : List Expr} {scope : Scope} {own : List (Str × Nat)} {pos cpos : Pos} {wi : TI} {g : TG} {tt : TT} {tk tv : TE} {use : Option (Value → Sem Unit)} {Qf : Value → Shared → Prop}
    (hu : X.A.units < cLine) (calm : X.calm = true) (nd : X.N.Nodup) (I : L2.Inv X pins σ H s) (hi : PI X tg iter wi) (ok : BlkOk X.N X.env.scope scope own) (pg : InBlk X scope fun Y => PG Y tg g) (pt : InBlk X scope fun Y => PTs Y ifs tt) (pk : InBlk X scope fun Y => PE Y kx tk) (pv : InBlk X scope fun Y => PE Y vx tv)
    (fold : ∀ x, foldedSetIterable iter X.env x = pure x) (h : tDt wi g tt tk tv (own.map (·.2)) σ H Q)
    (post : ∀ D C s' m H', L2.Inv X pins σ H' s' → Q (.ref D) H' → s'.heap.Ns C m → FpOk X pins H' C → compPost (model X.prog X.w) X.A X.xe use Qf (.ref D) C (.ok .next) s') :
    wpAny (model X.prog X.w) X.A (comprehension (.DictComp kx vx [⟨tg, iter, ifs, 0⟩] scope pos) scope X.env cpos newDict false (eval iter X.env) use) Qf X.xe s := by
  have capt : ∀ y ∈ scope.names, y.2 = .free → ∃ c, X.env.cells.lookup y.1 = some c := fun y hy e => (ok.free y hy e).elim (fun k => I.ok.has _ (.inl k)) fun k => I.ok.has _ (.inr k)
  refine wpAny_comprehension_free (use := use) rfl fold (closure_ok capt) ok.kind (fun y hy e => by rw [ok.uniq y hy, e]) (thn (hi.run pins s σ H _ I h) fun xv s1 hx => thn hx fun itv s2 r2 => ?_)
  obtain ⟨it, fp, tn, J, H2, rfl, I2, T, at2, foot, q⟩ := r2
  refine wpAny_newObj_type ?_
  refine newEnv_comp ?_
  -- the dict's place
  have free2 : H2 s2.heap.objs.size = none := I2.hok.fresh (Nat.le_refl _)
  obtain ⟨W, ⟨m0, w0⟩, turn⟩ := q s2.heap.objs.size free2
  have I3 : Inv X pins σ (upd H2 s2.heap.objs.size (.dT [])) { s2 with heap := s2.heap.push { cls := .type "dict", data := .dict #[] } } :=
    I2.laid (t' := s2.toks) (fun b o e => Heap.get?_push_of_some _ e) (Nat.le_refl _) (dt_empty s2.heap I2.big)
  have below : ∀ b ∈ fp, b < s2.heap.objs.size := fun b hb => let ⟨_, e, _⟩ := T.obj _ _ at2 b hb; Heap.lt_size e
  have foot3 : ∀ b ∈ fp, FpOk X pins (upd H2 s2.heap.objs.size (.dT [])) b ∧ b < (s2.heap.push { cls := .type "dict", data := .dict #[] }).objs.size := fun b hb =>
    ⟨⟨by rw [upd_ne (Nat.ne_of_lt (below b hb))]; exact (foot b hb).1, (foot b hb).2⟩, by rw [Heap.size_push]; exact Nat.lt_succ_of_lt (below b hb)⟩
  have at3 : tn 0 (s2.heap.push { cls := .type "dict", data := .dict #[] }) := T.keep _ _ _ at2 fun b _ o e => Heap.get?_push_of_some _ e
  generalize s2.heap.objs.size = D at *
  generalize hs3 : ({ s2 with heap := s2.heap.push { cls := .type "dict", data := .dict #[] } } : Shared) = s3 at *
  have e3 : s2.heap.push { cls := .type "dict", data := .dict #[] } = s3.heap := by rw [← hs3]
  rw [e3] at foot3 at3
  have I4 := block_start I3 ok nd foot3
  generalize hH3 : upd H2 D (.dT []) = H3 at *
  have at4 : tn 0 (pushCells (s3.heap.push { cls := .type "dict", data := .dict #[] }) scope.names) := T.keep _ _ _ at3 fun b _ o e => pushCells_keeps _ _ _ _ (Heap.get?_push_of_some _ e)
  generalize hcl : cellsFrom (s3.heap.objs.size + 1) scope.names (cloFrom X.env.cells scope.names []) = cl at I4
  have pg := pg s3 H3 s3.heap.objs.size cl fp
  have pt := pt s3 H3 s3.heap.objs.size cl fp
  have pk := pk s3 H3 s3.heap.objs.size cl fp
  have pv := pv s3 H3 s3.heap.objs.size cl fp
  have none3 : ∀ b ∈ fp, H3 b = none := fun b hb => (foot3 b hb).1.1
  show codeAny _ _ (.compStart _ 0 (.ref it) (.ref D) (compEnvC scope cl s3.heap.objs.size X.env)) (compPost (model X.prog X.w) X.A X.xe use Qf (.ref D) s3.heap.objs.size) { s3 with heap := pushCells (s3.heap.push { cls := .type "dict", data := .dict #[] }) scope.names }
  generalize hce : compEnvC scope cl s3.heap.objs.size X.env = ce at I4 pg pt pk pv ⊢
  have place : ce.locals = s3.heap.objs.size := by rw [← hce]; rfl
  generalize hin : ({ s3 with heap := pushCells (s3.heap.push { cls := .type "dict", data := .dict #[] }) scope.names } : Shared) = s4 at I4 ⊢
  have at4 : tn 0 s4.heap := by rw [← hin]; exact at4
  have foots : ∀ {σ' : L2.St} {H' : Hp} {s' : Shared}, L2.Inv (X.blk s3 H3 scope ce fp) [] σ' H' s' → (∀ b ∈ fp, H' b = none) → ∀ b ∈ fp, FpOk (X.blk s3 H3 scope ce fp) [] H' b := fun {σ' H' s'} J' no b hb =>
    ⟨no b hb, (J'.ok.exf b hb).1, J'.ok.exfs b hb, .inl hb, fun x c e => (J'.ok.exf b hb).2 x c e, fun p hp => (nomatch (show p ∈ ([] : List (Addr × Obj)) from hp))⟩
  have all : codeAny (model X.prog X.w) X.A (.compLoop (.DictComp kx vx [⟨tg, iter, ifs, 0⟩] scope pos) 0 (.ref it) (.ref D) ce) (compPost (model X.prog X.w) X.A X.xe use Qf (.ref D) s3.heap.objs.size) s4 := by
    refine compLoop_anyD (fun n s' => ∃ i H', L2.Inv (X.blk s3 H3 scope ce fp) [] (wipe σ (own.map (·.2))) H' s' ∧ tn i s'.heap ∧ (∀ b ∈ fp, H' b = none) ∧ W i n H') ?_ m0 ⟨0, H3, I4, at4, none3, w0⟩
    rintro n s5 ⟨i, H5, I5, at5, no5, w5⟩
    rcases turn i n H5 w5 with ⟨stop, fin⟩ | ⟨go, Nx, down, step⟩
    · refine thnF (T.done (X.blk s3 H3 scope ce fp) rfl rfl rfl calm i [] s5 _ H5 (fun _ _ => False) I5 (foots I5 no5) at5 stop) fun r s6 r6 => ?_
      obtain ⟨rfl, I6⟩ := r6
      have I7 : L2.Inv X pins σ H5 s6 := I3.call' (ch := fp) I6.os I6.base I6.hok I6.bare fun b hb => let z := (foot3 b hb).1; ⟨z.2.2.2.1, z.2.1, z.2.2.2.2.1, z.2.2.2.2.2⟩
      have noC : H5 s3.heap.objs.size = none := place ▸ (show H5 ce.locals = none from I6.free)
      obtain ⟨m, hn, _⟩ := I6.loc
      exact post D s3.heap.objs.size s6 m H5 I7 fin (place ▸ (show s6.heap.Ns ce.locals m from hn)) (I3.fpOk (Nat.le_refl _) noC)
    · refine thnF (T.item (X.blk s3 H3 scope ce fp) rfl rfl rfl calm i [] s5 _ H5 (fun _ _ => False) I5 (foots I5 no5) at5 go) fun r s6 r6 => ?_
      obtain ⟨u, rfl, h6⟩ := r6
      refine thnF h6 fun _ s7 ⟨x, H7, I7, rx, y7, at7, no7⟩ => ?_
      have I7' := I7.pinned (foots I7 no7) (T.obj _ _ at7)
      refine thnF (pg.run _ s7 _ H7 x u _ I7' rx (step x H7 y7)) fun _ s8 ⟨σ8, H8, I8, w8, q8⟩ => thnF (pt.run _ s8 σ8 H8 _ I8 q8) fun b s9 ⟨H9, I9, q9⟩ => ?_
      have back : ∀ {s' : Shared} {H' : Hp}, L2.Inv (X.blk s3 H3 scope ce fp) ([] ++ pinsAt fp s7.heap) σ8 H' s' → Nx H' → ∃ m, m < n ∧ ∃ i H', L2.Inv (X.blk s3 H3 scope ce fp) [] (wipe σ (own.map (·.2))) H' s' ∧ tn i s'.heap ∧ (∀ b ∈ fp, H' b = none) ∧ W i m H' := fun {s' H'} J' nx => by
        obtain ⟨m', hm, w'⟩ := down H' nx
        have held : ∀ b ∈ fp, ∀ o, s7.heap.get? b = some o → s'.heap.get? b = some o ∧ H' b = none := fun b hb o e =>
          let z := J'.pin (b, o) (List.mem_append_right _ (List.mem_append_right _ (mem_pinsAt hb e)))
          ⟨z.1, z.2.1⟩
        refine ⟨m', hm, i + 1, H', (J'.unpinned (pins := [])).weak (by rw [← w8, wipe_length]) (fun j v e => (wipe_some (w8 ▸ e)).1), T.keep _ _ _ at7 fun b hb o e => (held b hb o e).1, fun b hb => ?_, w'⟩
        obtain ⟨o, e, _⟩ := T.obj _ _ at7 b hb
        exact (held b hb o e).2
      cases b with
      | false =>
        simp only [if_false, Bool.false_eq_true] at q9 ⊢
        exact back I9 q9
      | true =>
        simp only [if_true] at q9 ⊢
        refine thnF (pk.run _ s9 σ8 H9 _ I9 q9) fun z sA ⟨y, HA, IA, ry, qA⟩ => thnF (pv.run _ sA σ8 HA _ IA qA) fun z2 sB ⟨yv, HB, IB, rv, b, kvs, k, ek, hD, hb, hz, nx⟩ => ?_
        subst ek
        obtain rfl : z = Value.ref b := ry
        exact tput_ok (X := X.blk s3 H3 scope ce fp) hu IB hD hb hz rv fun sC IC => back IC nx
  exact codeAny_compStart_dict all (T.self X.A 0 _ _ _ at4 all)
/-- as a value -/
theorem pe_dt {kx vx tg iter : Expr} {ifs : List Expr} {scope : Scope} {own : List (Str × Nat)} {pos : Pos} {wi : TI} {g : TG} {tt : TT} {tk tv : TE} (hu : X.A.units < cLine) (calm : X.calm = true) (nd : X.N.Nodup) (hi : PI X tg iter wi) (ok : BlkOk X.N X.env.scope scope own)
    (pg : InBlk X scope fun Y => PG Y tg g) (pt : InBlk X scope fun Y => PTs Y ifs tt) (pk : InBlk X scope fun Y => PE Y kx tk) (pv : InBlk X scope fun Y => PE Y vx tv) (fold : ∀ x, foldedSetIterable iter X.env x = pure x := by intro _; rfl) :
    PE X (.DictComp kx vx [⟨tg, iter, ifs, 0⟩] scope pos) (tDt wi g tt tk tv (own.map (·.2))) := by
  refine ⟨fun pins s σ H Q I h => ?_⟩
  rw [arm_eval_DictComp]
  refine dt_core hu calm nd I hi ok pg pt pk pv fold h fun D C s' m H' I' q hn ⟨f0, f1, f2, f3, f4, f5⟩ => ⟨m, hn, fun h'' sb => ⟨.ref D, H', ?_, rfl, q⟩⟩
  exact I'.turned (t' := s'.toks) (fun b o hb e => (sb.2 b hb).trans e) f0 f1 f3 f4 f5
/-- name = {..}, on one line, the name a local -/
theorem ps_setDt {i : Nat} {y : Str} {py : Pos} {kx vx tg iter : Expr} {ifs : List Expr} {scope : Scope} {own : List (Str × Nat)} {pos spos : Pos} {wi : TI} {g : TG} {tt : TT} {tk tv : TE} (hu : X.A.units < cLine) (calm : X.calm = true) (nd : X.N.Nodup) (hy : X.N[i]? = some y) (loc : X.env.scope.names.lookup y = some .local)
    (sw : swapsWith (.DictComp kx vx [⟨tg, iter, ifs, 0⟩] scope pos) (some (.Name y py)) spos.line X.env = pure true) (hi : PI X tg iter wi) (ok : BlkOk X.N X.env.scope scope own)
    (pg : InBlk X scope fun Y => PG Y tg g) (pt : InBlk X scope fun Y => PTs Y ifs tt) (pk : InBlk X scope fun Y => PE Y kx tk) (pv : InBlk X scope fun Y => PE Y vx tv) (fold : ∀ x, foldedSetIterable iter X.env x = pure x := by intro _; rfl) :
    PS X (.Assign [.Name y py] (.DictComp kx vx [⟨tg, iter, ifs, 0⟩] scope pos) spos) (tAsg (tDt wi g tt tk tv (own.map (·.2))) (gName i)) := by
  refine ⟨fun pins s σ H D I h => ?_⟩
  rw [exec_Assign_Name_used _ _ _ _ sw]
  refine wpAny_bind (wpAny_standAt ?_)
  refine wpAny_bind ?_
  show wpAny _ X.A (do let _ ← comprehension (.DictComp kx vx [⟨tg, iter, ifs, 0⟩] scope pos) scope X.env (firstIterPos [⟨tg, iter, ifs, 0⟩] pos) newDict false (eval iter X.env) (some (assign (.Name y py) X.env))) _ _ s
  have h' : tDt wi g tt tk tv (own.map (·.2)) σ H (fun x H1 => gName i x σ H1 D.nx) := h
  refine wpAny_bind (thn (dt_core (Qf := fun _ s' => SP X pins D .next s') hu calm nd I hi ok pg pt pk pv fold h' fun L C s' m H' I' q hn ⟨f0, f1, f2, f3, f4, f5⟩ => ?_) fun _ s' hq => wpAny_pure (wpAny_pure hq))
  change wpAny _ _ (assign (.Name y py) X.env (Value.ref L)) _ _ _
  refine wpAny_assign_Name (store_ok2 (v := V.ref L) I' nd hy (.inl loc) rfl (fun s2 I2 ⟨a, sb, ha⟩ => ?_) (.inr loc))
  have apart : C ≠ a := ha.elim (fun z => z ▸ f1) fun z e => f4 y a z e.symm
  exact ⟨m, hn.sameBut sb apart, fun h3 sb3 => ⟨_, H', I2.turned (t' := s2.toks) (fun b o hb e => (sb3.2 b hb).trans e) f0 f1 f3 f4 f5, q⟩⟩
theorem swd_true {kx vx : Expr} {gs : List Comprehension} {scope : Scope} {pos py : Pos} {y : Str} {l : Nat} {env : Env} (hk : env.scope.kind = .function) (hy : env.scope.names.lookup y = some .local) (hl : (py.line == pos.line) = true)
    (ha : (scope.names.any fun (n, k) => n == y && (k == .local || k == .cell)) = false) : swapsWith (.DictComp kx vx gs scope pos) (some (.Name y py)) l env = pure true := by
  have k1 : env.kindOf y = some .local := hy
  have k2 : env.blockKind = .function := by unfold Env.blockKind; rw [hk]; rfl
  unfold swapsWith
  simp only [k2, k1, ha, Expr.pos, hl]
  rfl
end
end KW
end

section
set_option Elab.async false
set_option linter.all false
set_option maxRecDepth 100000
set_option maxHeartbeats 2500000
namespace KW
open PySem L2 KM
open PySem.Spec hiding Row
open PyProof.Rows
/-! sorted(d), d a dict whose keys are rows of one size -/
/-- a row as a dict's key -/
def rk (r : Row) : List L2.Key := r.map fun b => Sum.inl (bi b)
theorem rk_vals (r : Row) : (rk r).map kV = ro r := by
  unfold rk ro
  rw [List.map_map]
  rfl
theorem rk_inj {r q : Row} (h : rk r = rk q) : r = q := by
  induction r generalizing q with
  | nil => cases q with
    | nil => rfl
    | cons _ _ => cases h
  | cons a r ih => cases q with
    | nil => cases h
    | cons b q =>
      have h1 := List.cons.inj (show (Sum.inl (bi a) : L2.Key) :: rk r = Sum.inl (bi b) :: rk q from h)
      have h2 : bi a = bi b := Sum.inl.inj h1.1
      have h3 : a = b := by revert h2; cases a <;> cases b <;> simp [bi]
      rw [h3, ih h1.2]
theorem foldl_num (bs : List Bool) : ∀ a : Nat, bs.foldl (fun n b => 2 * n + b.toNat) a = a * 2 ^ bs.length + num bs := by
  induction bs with
  | nil => intro a; simp [num]
  | cons b bs ih =>
    intro a
    have h1 := ih (2 * a + b.toNat)
    have h2 := ih (2 * 0 + b.toNat)
    show bs.foldl _ (2 * a + b.toNat) = a * 2 ^ (bs.length + 1) + bs.foldl _ (2 * 0 + b.toNat)
    rw [h1, h2, Nat.pow_succ, Nat.add_mul, Nat.mul_zero, Nat.zero_add, ← Nat.add_assoc]
    congr 2
    rw [Nat.mul_comm 2 a, Nat.mul_assoc, Nat.mul_comm 2]
theorem num_cons (b : Bool) (bs : List Bool) : num (b :: bs) = b.toNat * 2 ^ bs.length + num bs := by
  have h := foldl_num bs (2 * 0 + b.toNat)
  rw [Nat.mul_zero, Nat.zero_add] at h
  show bs.foldl _ (2 * 0 + b.toNat) = _
  rw [Nat.mul_zero, Nat.zero_add]
  exact h
theorem bi_nat (b : Bool) : bi b = (b.toNat : Int) := by cases b <;> rfl
theorem code_row (r : Row) : TS.code 2 (r.map bi) = (num r : Int) := by
  induction r with
  | nil => rfl
  | cons b r ih =>
    show bi b * 2 ^ (r.map bi).length + TS.code 2 (r.map bi) = _
    rw [ih, num_cons, bi_nat, List.length_map]
    push_cast
    rfl
theorem bd_row (r : Row) : TS.Bd 2 (r.map bi) := fun m hm => by
  obtain ⟨b, _, rfl⟩ := List.mem_map.mp hm
  cases b <;> decide
theorem ro_ints (r : Row) : ro r = (r.map bi).map V.int := by
  unfold ro
  rw [List.map_map]
  rfl
section
variable {X : Cx} {pins : List (Addr × Obj)} {σ : L2.St} {H : Hp} {s : Shared}
theorem row_raw (I : L2.Inv X pins σ H s) {a : Addr} {r : Row} (h : H a = some (.tup (ro r))) : TS.TupInts s.heap (.ref a) (r.map bi) := tupI_raw I (by rw [← ro_ints]; exact SqT.of h)
/-- sorted(d): the rows, each once, ascending -/
def rSortDt : List V → Hp → VK → Prop := fun vs H Q => ∃ (a : Addr) (kvs : List (List L2.Key × V)) (rs : List Row) (k : Nat), vs = [V.ref a] ∧ H a = some (.dT kvs) ∧ kvs.map (·.1) = rs.map rk ∧ rs.length < 64 ∧ 1 ≤ k ∧ (∀ r ∈ rs, r.length = k) ∧
  ∀ (p : Addr) (us : List V) (L : List Row), H p = none → RowsAt H us L → L.Perm rs → L.Pairwise (fun x y => num x ≤ num y) → Q (.ref p) (upd H p (.lst us))
end
theorem pair_rows {H : Hp} : ∀ {kvs : List (List L2.Key × V)} {xs : List (List L2.Key × Addr × Value)} {rs : List Row}, KT H kvs xs → kvs.map (·.1) = rs.map rk → Paired (fun a r => H a = some (.tup (ro r))) (xs.map (·.2.1)) rs
  | _, _, [], .nil, _ => .nil
  | _, _, r :: rs, .nil, e => (nomatch e)
  | _, _, [], .cons _ _, e => (nomatch e)
  | _, _, r :: rs, .cons h t, e => by
    have e' := List.cons.inj e
    refine .cons ?_ (pair_rows t e'.2)
    rw [← rk_vals, ← e'.1]
    exact h.2.1
theorem zip_fst {α β : Type} {F : α → β → Prop} : ∀ {xs : List α} {ys : List β}, Paired F xs ys → (xs.zip ys).map (·.1) = xs ∧ (xs.zip ys).map (·.2) = ys ∧ ∀ z ∈ xs.zip ys, F z.1 z.2
  | _, _, .nil => ⟨rfl, rfl, fun z h => (nomatch h)⟩
  | _, _, .cons h t => by
    obtain ⟨a, b, c⟩ := zip_fst t
    refine ⟨by rw [List.zip_cons_cons, List.map_cons, a], by rw [List.zip_cons_cons, List.map_cons, b], fun z hz => ?_⟩
    rw [List.zip_cons_cons] at hz
    rcases List.mem_cons.mp hz with e | hz
    · subst e; exact h
    · exact c z hz
section
variable {X : Cx}
theorem cr_sortDt (calm : X.calm = true) : CallR X (.builtin "sorted") rSortDt := by
  intro pins s σ H vs us Q I r h
  obtain ⟨a, kvs, rs, k, rfl, ha, hk, h64, k1, hlen, q⟩ := h
  obtain rfl := Vals.ref1 r
  obtain ⟨z, lo, xs, rel, o, es, ep, a1, a2, a3, a4, _, a5⟩ := dt_of I.hok ha
  have hp := pair_rows rel hk
  obtain ⟨z1, z2, z3⟩ := zip_fst hp
  generalize hzs : (xs.map (·.2.1)).zip rs = zs at z1 z2 z3
  have nx : xs.length = rs.length := by rw [← Paired.length hp, List.length_map]
  have ne : es.size = xs.length := size_of_entries a4
  refine Calls.call_function_entry kind_sorted plain_sorted entry_sorted (args_sorted1 (.ref a)) ?_
  unfold Builtin.«sorted»
  refine wpAny_bind (m := checkCount "sorted" 1 1 _) ?_
  refine wpAny_pure ?_
  refine wpAny_bind (PySem.W.kdu_collect (A := X.A.in1) (PySem.KdlSrc.rawDict (es := es) (ep := ep) lo) (I.ok.hd calm) ⟨o, a1, a2, a3⟩ (by rw [ne, nx, sizeLine_eq]; omega) fun h' tk acc keep items => ?_)
  -- what was gathered
  have hacc : acc.toList = zs.map fun z => Value.ref z.1 := by
    refine List.ext_getElem? fun i => ?_
    have ez : (zs.map fun z => Value.ref z.1) = xs.map fun x => Value.ref x.2.1 := by
      have e := congrArg (List.map Value.ref) z1
      rw [List.map_map, List.map_map] at e
      exact e
    rw [ez]
    have hsz : acc.toList.length = xs.length := by rw [Array.length_toList, items.1, ne]
    by_cases hi : i < xs.length
    · have g1 : acc[i]? = some acc.toList[i] := by rw [← Array.getElem?_toList]; simp [hsz, hi]
      obtain ⟨hi2, ev⟩ := items.2 i _ g1
      have ee : es.toList[i]? = some es[i] := by simp [hi2]
      rw [a4, List.getElem?_map] at ee
      cases hx : xs[i]? with
      | none => rw [hx] at ee; cases ee
      | some x =>
        rw [hx] at ee
        have ee' : entryOfKey (tupleKind (mixKind X.prog X.w)) x = es[i] := Option.some.inj ee
        rw [Array.getElem?_toList, g1, ev, ← ee', List.getElem?_map, hx]
        rfl
    · rw [List.getElem?_eq_none (by omega), List.getElem?_eq_none (by rw [List.length_map]; omega)]
  have I1 : L2.Inv X pins σ H { s with heap := h', toks := tk } := I.kept keep
  refine wpAny_bind (wpAny_newList ?_ (by rw [Array.length_toList, items.1, ne, nx, sizeLine_eq]; omega))
  have lay : (h'.push (seqObj "list" acc.toList.toArray 0)).get? h'.objs.size = some (seqObj "list" acc.toList.toArray 0) := Heap.get?_push_size _ rfl
  have up : ∀ b u, h'.get? b = some u → (h'.push (seqObj "list" acc.toList.toArray 0)).get? b = some u := fun b u e => Heap.get?_push_of_some _ e
  have each : ∀ v ∈ acc.toList, ∃ zr ∈ zs, v = Value.ref zr.1 ∧ TS.TupInts (h'.push (seqObj "list" acc.toList.toArray 0)) v (zr.2.map bi) := fun v hv => by
    have hv' := hv
    rw [hacc] at hv'
    obtain ⟨zr, hz, rfl⟩ := List.mem_map.mp hv'
    exact ⟨zr, hz, rfl, (row_raw I1 (z3 zr hz)).keeps fun b u e _ => up b u e⟩
  have rlen : ∀ zr ∈ zs, zr.2.length = k := fun zr hz => hlen _ (by rw [← z2]; exact List.mem_map.mpr ⟨zr, hz, rfl⟩)
  change wpAny _ _ _ _ _ { s with toks := tk, heap := h'.push (seqObj "list" acc.toList.toArray 0) }
  refine wpAny_bind (wpAny_holding (wpAny_call_entry slot_list_sort ⟨_, lay, rfl⟩ entry_list_sort (TS.sort_tups (s := { s with heap := h'.push (seqObj "list" acc.toList.toArray 0), toks := tk }) (d := k) (B := 2) lay
    (by rw [Array.length_toList, items.1, ne, nx]; exact h64) k1 (fun v hv => ?_) (fun v => TS.code 2 (TS.intsOf (h'.push (seqObj "list" acc.toList.toArray 0)) v)) (fun v hv ns t => by rw [t.ints]) fun out b1 b2 => ⟨_, rfl, ?_⟩) (args_list_sort _)))
  · obtain ⟨zr, hz, _, t⟩ := each v hv
    exact ⟨_, t, by rw [List.length_map]; exact rlen zr hz, bd_row _⟩
  · obtain ⟨e', he'⟩ := sortedHeap_at (vs := acc.toList) (out := out) lay
    rw [hacc] at b1
    obtain ⟨ys, y1, y2⟩ := perm_lift (fun z : Addr × Row => Value.ref z.1) b1 zs rfl
    have ymem : ∀ z ∈ ys, z ∈ zs := fun z h => y1.mem_iff.mp h
    have noP : H h'.objs.size = none := I1.hok.fresh (Nat.le_refl _)
    have hl2 : (ys.map fun z => V.ref z.1).length ≤ sizeLine := by
      have e1 := y1.length_eq
      have e2 := congrArg List.length z2
      rw [List.length_map] at e2
      rw [List.length_map, sizeLine_eq]
      omega
    have rows : ∀ zs' : List (Addr × Row), (∀ z ∈ zs', H z.1 = some (.tup (ro z.2))) → RowsAt H (zs'.map fun z => V.ref z.1) (zs'.map (·.2)) := by
      intro zs'
      induction zs' with
      | nil => exact fun _ => .nil
      | cons z zs' ih => exact fun h => .cons ⟨z.1, rfl, h z List.mem_cons_self⟩ (ih fun y hy => h y (List.mem_cons_of_mem _ hy))
    refine wpAny_pure ⟨_, rfl, .ref h'.objs.size, upd H h'.objs.size (.lst (ys.map fun z => V.ref z.1)), I1.laid (t' := tk) (fun b u e => ?_) (Nat.le_refl _)
      (show ObjOk X.prog X.w _ _ _ (.lst (ys.map fun z => V.ref z.1)) from ⟨hl2, out.toList, e', ?_, by rw [Array.toArray_toList]; exact he'⟩), rfl, q h'.objs.size _ (ys.map (·.2)) noP (rows ys fun z hz => z3 z (ymem z hz)) ?_ ?_⟩
    · have hb : b < h'.objs.size := Heap.lt_size e
      rw [sortedHeap_old (Nat.ne_of_lt hb) (by rw [size_push']; exact Nat.lt_succ_of_lt hb)]
      exact up b u e
    · rw [← y2]
      exact vals_maps (fun z : Addr × Row => V.ref z.1) (fun z => Value.ref z.1) ys fun _ _ => rfl
    · have e := y1.map (·.2)
      rw [z2] at e
      exact e
    · rw [← y2, List.pairwise_map] at b2
      rw [List.pairwise_map]
      refine List.Pairwise.imp_of_mem (fun {x y} hx hy hh => ?_) b2
      have c : ∀ z ∈ ys, TS.code 2 (TS.intsOf (h'.push (seqObj "list" acc.toList.toArray 0)) (.ref z.1)) = (num z.2 : Int) := fun z hz => by
        rw [((row_raw I1 (z3 z (ymem z hz))).keeps fun b u e _ => up b u e).ints, code_row]
      have hh' : TS.code 2 (TS.intsOf (h'.push (seqObj "list" acc.toList.toArray 0)) (.ref x.1)) ≤ TS.code 2 (TS.intsOf (h'.push (seqObj "list" acc.toList.toArray 0)) (.ref y.1)) := hh
      rw [c x hx, c y hy] at hh'
      omega
end
end KW
end

section
set_option Elab.async false
set_option linter.all false
set_option maxRecDepth 100000
namespace KW
open PySem L2 KM
section
variable {K : PySem.W.Frag} {mg : Str → Option Value} {base : Heap} {P : Program} {w : World}
theorem scIsBelow : FnScope ["value", "limit"] ["value", "limit"] (defScope sIsBelow) := ⟨rfl, rfl, rfl, by decide +kernel, rfl, by decide +kernel, by decide +kernel⟩
/-! ### is_below, is_row, are_rows -/
def spBelow : Sp := fun vs H Q _ => ∃ i n : Int, vs = [.int i, .int n] ∧ Q (.bl (decide (0 ≤ i) && decide (i < n))) H
theorem ok_below {f : Addr} {fd : FuncData} (F : Fun K "is_below" "is_below" sIsBelow f fd) (T : Txt K mg) : FnOk P w K mg base CX0 1 f fd ["value", "limit"] spBelow := by
  refine F.ok scIsBelow (fun vs H Q E h => ?_) (fun cdv A outer s H vs Q E hr h => ?_)
  · obtain ⟨i, n, rfl, _⟩ := h
    rfl
  · obtain ⟨i, n, rfl, q⟩ := h
    refine ⟨_, pss_one (ps_ret (pe_and (pe_callB call_isi (by rfl) T.isinst (by decide +kernel) (pa_cons (pv 0) (pa_cons (pe_bltn (v := .ty "int") (by rfl) T.int (by decide +kernel) rfl) pa_nil))) (pe_and (pe_not (pe_callB call_isi (by rfl) T.isinst (by decide +kernel) (pa_cons (pv 0) (pa_cons (pe_bltn (v := .ty "bool") (by rfl) T.bool (by decide +kernel) rfl) pa_nil)))) (pe_one (pe_chain op_le op_lt (pe_int) (pv 0) (pv 1)))))), ?_⟩
    refine ⟨_, rfl, _, _, _, _, true, rfl, .ty _, .base (.int _), kit_ty (by decide +kernel), true, rfl, iteT ?_⟩
    refine ⟨_, rfl, _, _, _, _, false, rfl, .ty _, .base (.int _), kit_ty (by decide +kernel), false, rfl, _, rfl, iteT ?_⟩
    refine ⟨_, rfl, _, _, rfl, rfl, _, rfl, ?_⟩
    refine ite2 (fun c => ?_) (fun c => ?_)
    · refine ⟨_, rfl, _, _, rfl, rfl, ?_⟩
      rw [c] at q
      exact q
    · have c' : decide ((0 : Int) ≤ i) = false := by simpa using c
      rw [c'] at q
      exact q
def spRowQ (K : PySem.W.Frag) : Sp := fun vs H Q _ => ∃ (a : Addr) (r : Row), vs = [.ref a, .int r.length] ∧ H a = some (.tup (ro r)) ∧ Q (.bl true) H
theorem scIsRow : FnScope ["value", "size", "one"] ["value", "size"] (defScope sIsRow) := ⟨rfl, rfl, rfl, by decide +kernel, rfl, by decide +kernel, by decide +kernel⟩
theorem ok_rowq {f fB : Addr} {fd fdB : FuncData} (F : Fun K "is_row" "is_row" sIsRow f fd) (T : Txt K mg) (CB : Cal P w K mg base 1 "is_below" fB fdB ["value", "limit"] spBelow) : FnOk P w K mg base CX0 2 f fd ["value", "size"] (spRowQ K) := by
  refine F.ok scIsRow (fun vs H Q E h => ?_) (fun cdv A outer s H vs Q E hr h => ?_)
  · obtain ⟨a, r, rfl, _⟩ := h
    rfl
  · obtain ⟨a, r, rfl, ha, q⟩ := h
    refine ⟨_, pss_cons (ps_if (PW.pt (pw_or (pt_not (pt_val (pe_callB call_isi (by rfl) T.isinst (by decide +kernel) (pa_cons (pv 0) (pa_cons (pe_bltn (v := .ty "tuple") (by rfl) T.tuple (by decide +kernel) rfl) pa_nil))))) (pw_or1 (pt_cmpR op_ne (pe_callB call_len_seq (by rfl) T.len PySem.boot_len (pa_cons (pv 0) pa_nil)) (pv 1) (nomark _))))) (pss_one (ps_ret (pe_bl))) (pss_nil))
      (pss_cons (ps_for PassesOwn.never rfl (pi_tup (pv 0)) (pg_name (i := 2) scIsRow.nd rfl (.inl rfl)) (pss_one (ps_if (pt_not (pt_val (pe_call CB.ok hr rfl CB.mg CB.kp CB.b .nil pass0 (pa_cons (pv 2) (pa_cons (pe_int) pa_nil))))) (pss_one (ps_ret (pe_bl))) (pss_nil))))
      (pss_one (ps_ret (pe_bl)))), ?_⟩
    refine ⟨_, rfl, _, _, _, _, true, rfl, .ty _, .base (.tup ha), kit_ty (by decide +kernel), true, rfl, iteF ?_⟩
    refine ⟨_, rfl, a, _, rfl, .inr (SqT.of ha), _, rfl, rfl, _, rfl, ?_⟩
    rw [ro_length]
    refine iteNS rfl ?_
    refine ⟨_, rfl, a, rfl, ⟨_, SqT.of ha⟩, for_tup (K := K) (a := a) (xs := ro r) (fun i σ H2 => ∃ v2 : Option V, σ = [some (.ref a), some (.int r.length), v2] ∧ H2 = H) ⟨none, rfl, rfl⟩ (fun i σ H2 _ ⟨_, _, e⟩ => e ▸ SqT.of ha) ?_ ?_⟩
    · rintro i y σ H2 hi ⟨v2, rfl, rfl⟩
      obtain ⟨b, hb, rfl⟩ := map_at hi
      refine ⟨_, rfl, bi b, 2, rfl, true, ?_, iteF ⟨_, rfl, rfl⟩⟩
      cases b <;> rfl
    · rintro σ H2 ⟨v2, rfl, rfl⟩
      exact q
/-- rows: a list or a tuple of rows of that size -/
def spRowsQ (K : PySem.W.Frag) : Sp := fun vs H Q _ => ∃ (a : Addr) (us : List V) (rs : List Row) (k : Nat), vs = [.ref a, .int k] ∧ (H a = some (.lst us) ∨ H a = some (.tup us)) ∧ RowsAt H us rs ∧ rs ≠ [] ∧ (∀ r ∈ rs, r.length = k) ∧ ∀ H' : Hp, Same H H' → Q (.bl true) H'
theorem scAreRows : FnScope ["rows", "size", "row"] ["rows", "size"] (defScope sAreRows) := ⟨rfl, rfl, rfl, by decide +kernel, rfl, by decide +kernel, by decide +kernel⟩
theorem ok_rowsq {f fB : Addr} {fd fdB : FuncData} (F : Fun K "are_rows" "are_rows" sAreRows f fd) (T : Txt K mg) (CB : Cal P w K mg base 2 "is_row" fB fdB ["value", "size"] (spRowQ K)) : FnOk P w K mg base CX0 3 f fd ["rows", "size"] (spRowsQ K) := by
  refine F.ok scAreRows (fun vs H Q E h => ?_) (fun cdv A outer s H vs Q E hr h => ?_)
  · obtain ⟨a, _, _, _, rfl, _⟩ := h
    rfl
  · obtain ⟨a, us, rs, k, rfl, ha, hR, hne, hk, q⟩ := h
    rcases ha with ha | ha
    · refine ⟨_, pss_cons (ps_if (PW.pt (pw_or (pt_not (pt_val (pe_callB call_isiT (by rfl) T.isinst (by decide +kernel) (pa_cons (pv 0) (pa_cons (pe_tup (pa_cons (pe_bltn (v := .ty "list") (by rfl) T.list (by decide +kernel) rfl) (pa_cons (pe_bltn (v := .ty "tuple") (by rfl) T.tuple (by decide +kernel) rfl) pa_nil))) pa_nil))))) (pw_or1 (pt_cmpR op_eq (pe_callB call_len_seq (by rfl) T.len PySem.boot_len (pa_cons (pv 0) pa_nil)) (pe_int) (nomark _))))) (pss_one (ps_ret (pe_bl))) (pss_nil))
      (pss_cons (ps_for PassesOwn.never rfl (pi_list (pv 0)) (pg_name (i := 2) scAreRows.nd rfl (.inl rfl)) (pss_one (ps_if (pt_not (pt_val (pe_call CB.ok hr rfl CB.mg CB.kp CB.b .nil pass0 (pa_cons (pv 2) (pa_cons (pv 1) pa_nil))))) (pss_one (ps_ret (pe_bl))) (pss_nil))))
      (pss_one (ps_ret (pe_bl)))), ?_⟩
      have hl := hR.length
      have hpos : 0 < rs.length := List.length_pos_iff.mpr hne
      refine ⟨_, rfl, by show 2 ≤ sizeLine; decide, fun T1 hT1 => ?_⟩
      have e1 : Same H (upd H T1 (.tup [.ty "list", .ty "tuple"])) := same_new hT1
      have ha1 := e1 _ _ ha
      refine ⟨_, T1, _, _, _, true, rfl, upd_same, .cons (.ty _) (.cons (.ty _) .nil), .base (.lst ha1), kitAny_cons (r := true) (kit_ty (r := true) (by decide +kernel)) (fun z => (nomatch z)) fun _ => rfl, true, rfl, iteF ?_⟩
      refine ⟨_, rfl, a, _, rfl, .inl (SqL.of ha1), rfl, _, rfl, ?_⟩
      refine ite2 (fun c => ?_) (fun _ => ?_)
      · have c' := of_decide_eq_true c
        injection c' with c'
        omega
      refine ⟨_, rfl, a, rfl, ⟨_, SqL.of ha1⟩, for_list (K := K) (a := a) (xs := us) (fun i σ H2 => ∃ v2 : Option V, σ = [some (.ref a), some (.int k), v2] ∧ Same H H2) ⟨none, rfl, e1⟩ (fun i σ H2 _ ⟨_, _, e⟩ => SqL.of (e _ _ ha)) ?_ ?_⟩
      · rintro i y σ H2 hi ⟨v2, rfl, e2⟩
        obtain ⟨r, hr, b, rfl, hb⟩ := Paired.at_ hR hi
        have hrk := hk r (List.mem_of_getElem? hr)
        exact ⟨_, rfl, _, rfl, b, r, by rw [hrk]; rfl, e2 _ _ hb, true, rfl, iteF ⟨_, rfl, e2⟩⟩
      · rintro σ H2 ⟨v2, rfl, e2⟩
        exact q H2 e2
    · refine ⟨_, pss_cons (ps_if (PW.pt (pw_or (pt_not (pt_val (pe_callB call_isiT (by rfl) T.isinst (by decide +kernel) (pa_cons (pv 0) (pa_cons (pe_tup (pa_cons (pe_bltn (v := .ty "list") (by rfl) T.list (by decide +kernel) rfl) (pa_cons (pe_bltn (v := .ty "tuple") (by rfl) T.tuple (by decide +kernel) rfl) pa_nil))) pa_nil))))) (pw_or1 (pt_cmpR op_eq (pe_callB call_len_seq (by rfl) T.len PySem.boot_len (pa_cons (pv 0) pa_nil)) (pe_int) (nomark _))))) (pss_one (ps_ret (pe_bl))) (pss_nil))
      (pss_cons (ps_for PassesOwn.never rfl (pi_tup (pv 0)) (pg_name (i := 2) scAreRows.nd rfl (.inl rfl)) (pss_one (ps_if (pt_not (pt_val (pe_call CB.ok hr rfl CB.mg CB.kp CB.b .nil pass0 (pa_cons (pv 2) (pa_cons (pv 1) pa_nil))))) (pss_one (ps_ret (pe_bl))) (pss_nil))))
      (pss_one (ps_ret (pe_bl)))), ?_⟩
      have hl := hR.length
      have hpos : 0 < rs.length := List.length_pos_iff.mpr hne
      refine ⟨_, rfl, by show 2 ≤ sizeLine; decide, fun T1 hT1 => ?_⟩
      have e1 : Same H (upd H T1 (.tup [.ty "list", .ty "tuple"])) := same_new hT1
      have ha1 := e1 _ _ ha
      refine ⟨_, T1, _, _, _, true, rfl, upd_same, .cons (.ty _) (.cons (.ty _) .nil), .base (.tup ha1), kitAny_cons (r := true) (kit_ty (r := false) (by decide +kernel)) (fun _ => kitAny_cons (r := true) (kit_ty (r := true) (by decide +kernel)) (fun z => (nomatch z)) fun _ => rfl) fun z => (nomatch z), true, rfl, iteF ?_⟩
      refine ⟨_, rfl, a, _, rfl, .inr (SqT.of ha1), rfl, _, rfl, ?_⟩
      refine ite2 (fun c => ?_) (fun _ => ?_)
      · have c' := of_decide_eq_true c
        injection c' with c'
        omega
      refine ⟨_, rfl, a, rfl, ⟨_, SqT.of ha1⟩, for_tup (K := K) (a := a) (xs := us) (fun i σ H2 => ∃ v2 : Option V, σ = [some (.ref a), some (.int k), v2] ∧ Same H H2) ⟨none, rfl, e1⟩ (fun i σ H2 _ ⟨_, _, e⟩ => SqT.of (e _ _ ha)) ?_ ?_⟩
      · rintro i y σ H2 hi ⟨v2, rfl, e2⟩
        obtain ⟨r, hr, b, rfl, hb⟩ := Paired.at_ hR hi
        have hrk := hk r (List.mem_of_getElem? hr)
        exact ⟨_, rfl, _, rfl, b, r, by rw [hrk]; rfl, e2 _ _ hb, true, rfl, iteF ⟨_, rfl, e2⟩⟩
      · rintro σ H2 ⟨v2, rfl, e2⟩
        exact q H2 e2
end
end KW
end

section
set_option Elab.async false
set_option linter.all false
set_option maxRecDepth 100000
namespace KW
open PySem L2 KM
section
variable {K : PySem.W.Frag} {mg : Str → Option Value} {base : Heap} {P : Program} {w : World}
/-! ### spelled, made_row -/
def nums (k : Nat) (rs : List Row) : List V := (List.range k).map fun p => .int (num (rs.map fun r => r.getD p false))
def spSpelled (K : PySem.W.Frag) : Sp := fun vs H Q _ => ∃ (a : Addr) (us : List V) (rs : List Row) (k : Nat), vs = [.ref a] ∧ SqT K H a us ∧ RowsAt H us rs ∧ rs ≠ [] ∧ rs.length ≤ 4 ∧ (∀ r ∈ rs, r.length = k) ∧ k ≤ 4 ∧
  ∀ (H' : Hp) (t : Addr), Same H H' → H' t = some (.tup (nums k rs)) → Q (.ref t) H'
abbrev nSpell : List Str := ["rows", "place", "row"]
theorem scSpell : FnScope nSpell ["rows"] (defScope sSpell) := ⟨rfl, rfl, rfl, by decide +kernel, rfl, by decide +kernel, by decide +kernel⟩
theorem ok_spell {f fN : Addr} {fd fdN : FuncData} (F : Fun K "spelled" "spelled" sSpell f fd) (T : Txt K mg) (CN : Cal P w K mg base 1 "number_of" fN fdN ["bits"] (spNum K)) : FnOk P w K mg base CX0 2 f fd ["rows"] (spSpelled K) := by
  refine F.ok scSpell (fun vs H Q E h => ?_) (fun cdv A outer s H vs Q E hr h => ?_)
  · obtain ⟨a, _, _, _, rfl, _⟩ := h
    rfl
  · obtain ⟨a, us, rs, k, rfl, hS, hR, hne, h4, hk, k4, q⟩ := h
    refine ⟨_, pss_one (ps_ret (pe_callTy call_tuple_of (by rfl) T.tuple (by decide +kernel) (pa_cons (pe_lc (own := [("place", 1)]) (g := gName 1) (tt := tYes) rfl scSpell.nd (pi_range1 rfl T.range (pa_cons (pe_callB call_len_seq (by rfl) T.len PySem.boot_len (pa_cons (pe_ix ix_tup (pv 0) (pe_int) (fun _ _ => rfl)) pa_nil)) pa_nil)) (blkOk_by (N := nSpell) (sc := defScope sSpell) (by decide +kernel)) (fun _ _ _ _ _ => pg_name (i := 1) scSpell.nd rfl (.inr rfl)) (fun _ _ _ _ _ => pts_nil) (fun _ _ _ _ _ => pe_call CN.ok hr rfl CN.mg CN.kp CN.b .nil pass0 (pa_cons (pe_lc (own := [("row", 2)]) (g := gName 2) (tt := tYes) (wi := iTup K (tVar 0)) rfl scSpell.nd (pi_tup (pv 0)) (blkOk_by (N := nSpell) (sc := relS _ (defScope sSpell)) (by decide +kernel)) (fun _ _ _ _ _ => pg_name (i := 2) scSpell.nd rfl (.inl rfl)) (fun _ _ _ _ _ => pts_nil) (fun _ _ _ _ _ => pe_ix (r := rIxT K) ix_tup (pv 2) (pv 1) (fun _ _ => rfl))) pa_nil))) pa_nil))), ?_⟩
    have hul := hR.length
    have hpos : 0 < rs.length := List.length_pos_iff.mpr hne
    have atr : ∀ {H' : Hp}, Same H H' → SqT K H' a us := fun e => Same.tup e hS
    obtain ⟨u0, hu0⟩ : ∃ u0, us[0]? = some u0 := ⟨us[0], by simp [hul, hpos]⟩
    obtain ⟨r0, hr0, a0, rfl, ha0⟩ := Paired.at_ (i := 0) hR hu0
    have hr0k : r0.length = k := hk r0 (List.mem_of_getElem? hr0)
    refine ⟨_, rfl, a, _, 0, _, rfl, rfl, hS, at_of (j := 0) rfl hu0, a0, _, rfl, .inr (SqT.of ha0), (k : Int), by rw [ro_length, hr0k], by omega, by omega, fun D hD => lc_range (lo := 0) (n := (k : Int).toNat) (fun i H2 => Same H H2 ∧ ∃ acc, H2 D = some (.lst acc) ∧ acc = (nums k rs).take i) ⟨same_new hD, [], upd_same, rfl⟩ ?_ ?_⟩
    · rintro i H2 hi ⟨e2, acc, hacc, rfl⟩
      rw [Int.toNat_natCast] at hi
      -- [row[place] for row in rows]
      refine ⟨rfl, _, rfl, a, rfl, ⟨us, atr e2⟩, fun D2 hD2 => lc_tup (K := K) (a := a) (xs := us) (fun j H3 => Same H2 H3 ∧ ∃ ac, H3 D2 = some (.lst ac) ∧ ac = ((rs.take j).map fun r => r.getD i false).map bv) ⟨same_new hD2, [], upd_same, rfl⟩ (fun j H3 _ ⟨e3, _⟩ => atr (e2.trans e3)) ?_ ?_⟩
      · rintro j x H3 hj ⟨e3, ac, hac, rfl⟩
        obtain ⟨r, hr, b, rfl, hb⟩ := Paired.at_ hR hj
        have hrk := hk r (List.mem_of_getElem? hr)
        have hri : r[i]? = some r[i] := by simp [hrk, hi]
        have hroi : (ro r)[i]? = some (bv (r.getD i false)) := by
          rw [ro, List.getElem?_map, hri, getD_of hri]
          rfl
        refine ⟨rfl, _, rfl, _, rfl, b, _, (0 + (i : Int)), bv (r.getD i false), rfl, rfl, SqT.of ((e2.trans e3) _ _ hb), ?_, _, hac, ?_, same_upd e3 hD2, _, upd_same, ?_⟩
        · rw [Int.zero_add]
          exact atI_nat hroi
        · rw [List.length_map, List.length_map, List.length_take, sizeLine_eq]
          omega
        · rw [take_snoc hr]
          simp
      · rintro H3 ⟨e3, ac, hac, rfl⟩
        rw [hul, List.take_length] at hac
        refine ⟨D2, rs.map fun r => r.getD i false, rfl, SqL.of hac, by rw [List.length_map]; exact h4, _, e3 _ _ hacc, ?_, same_upd (e2.trans e3) hD, _, upd_same, ?_⟩
        · rw [List.length_take, sizeLine_eq]
          omega
        · have hn : (nums k rs)[i]? = some (.int (num (rs.map fun r => r.getD i false))) := by
            unfold nums
            rw [List.getElem?_map, List.getElem?_range hi]
            rfl
          rw [take_snoc hn]
    · rintro H2 ⟨e2, acc, hacc, rfl⟩
      have hz : (nums k rs).take (k : Int).toNat = nums k rs := by
        rw [Int.toNat_natCast, List.take_of_length_le]
        unfold nums
        simp
      rw [hz] at hacc
      refine ⟨D, _, rfl, .inl ⟨SqL.of hacc, fun t ht => q _ t (same_upd e2 (e2.free ht)) upd_same⟩⟩
def spMadeRow (K : PySem.W.Frag) : Sp := fun vs H Q _ => ∃ (t a : Addr) (T : List Bool) (us : List V) (rs : List Row) (k : Nat), vs = [.ref t, .ref a] ∧ SqT K H t (T.map bv) ∧ T.length = 2 ^ rs.length ∧ SqT K H a us ∧ RowsAt H us rs ∧ rs ≠ [] ∧ rs.length ≤ 4 ∧ (∀ r ∈ rs, r.length = k) ∧ k ≤ 4 ∧
  ∀ (H' : Hp) (u : V), Same H H' → IsRow H' u (made T k rs) → Q u H'
abbrev nMade : List Str := ["table", "rows", "number"]
theorem scMade : FnScope nMade ["table", "rows"] (defScope sMade) := ⟨rfl, rfl, rfl, by decide +kernel, rfl, by decide +kernel, by decide +kernel⟩
theorem ok_made {f fS : Addr} {fd fdS : FuncData} (F : Fun K "made_row" "made_row" sMade f fd) (T : Txt K mg) (CS : Cal P w K mg base 2 "spelled" fS fdS ["rows"] (spSpelled K)) : FnOk P w K mg base CX0 3 f fd ["table", "rows"] (spMadeRow K) := by
  refine F.ok scMade (fun vs H Q E h => ?_) (fun cdv A outer s H vs Q E hr h => ?_)
  · obtain ⟨t, a, _, _, _, _, rfl, _⟩ := h
    rfl
  · obtain ⟨t, a, Tb, us, rs, k, rfl, hT, hTl, hS, hR, hne, h4, hk, k4, q⟩ := h
    refine ⟨_, pss_one (ps_ret (pe_callTy call_tuple_of (by rfl) T.tuple (by decide +kernel) (pa_cons (pe_lc (own := [("number", 2)]) (g := gName 2) (tt := tYes) rfl scMade.nd (pi_tup (pe_call CS.ok hr rfl CS.mg CS.kp CS.b .nil pass0 (pa_cons (pv 1) pa_nil))) (blkOk_by (N := nMade) (sc := defScope sMade) (by decide +kernel)) (fun _ _ _ _ _ => pg_name (i := 2) scMade.nd rfl (.inl rfl)) (fun _ _ _ _ _ => pts_nil) (fun _ _ _ _ _ => pe_ix (r := rIxT K) ix_tup (pv 0) (pv 2) (fun _ _ => rfl))) pa_nil))), ?_⟩
    refine ⟨_, rfl, a, us, rs, k, rfl, hS, hR, hne, h4, hk, k4, fun H1 b e1 hb => ?_⟩
    have hlen : (nums k rs).length = k := by unfold nums; simp
    refine ⟨b, rfl, ⟨_, SqT.of hb⟩, fun D hD => lc_tup (K := K) (a := b) (xs := nums k rs) (fun i H2 => Same H1 H2 ∧ ∃ acc, H2 D = some (.lst acc) ∧ acc = ro ((made Tb k rs).take i)) ⟨same_new hD, [], upd_same, rfl⟩ (fun i H2 _ ⟨e2, _⟩ => SqT.of (e2 _ _ hb)) ?_ ?_⟩
    · rintro i x H2 hi ⟨e2, acc, hacc, rfl⟩
      have hik : i < k := by
        have := (List.getElem?_eq_some_iff.mp hi).1
        rwa [hlen] at this
      obtain ⟨p, hp, rfl⟩ := map_at hi
      obtain rfl : p = i := by
        rw [List.getElem?_range hik] at hp
        exact (Option.some.inj hp).symm
      have hat := tab_at (T := Tb) (m := rs.length) (bs := rs.map fun r => r.getD p false) hTl (by simp)
      refine ⟨rfl, _, rfl, _, rfl, t, _, _, _, rfl, rfl, Same.tup (e1.trans e2) hT, atI_nat hat, _, hacc, ?_, same_upd e2 hD, _, upd_same, ?_⟩
      · rw [ro_length, List.length_take, made_length, sizeLine_eq]
        omega
      · rw [made_more hik]
    · rintro H2 ⟨e2, acc, hacc, rfl⟩
      have hz : (made Tb k rs).take (nums k rs).length = made Tb k rs := by rw [hlen, List.take_of_length_le (by rw [made_length]; exact Nat.le_refl _)]
      rw [hz] at hacc
      exact ⟨D, _, rfl, .inl ⟨SqL.of hacc, fun u hu => q _ (.ref u) ((e1.trans e2).trans (same_new hu)) ⟨u, rfl, upd_same⟩⟩⟩
end
end KW
end

section
set_option Elab.async false
set_option linter.all false
set_option maxRecDepth 100000
namespace KW
open PySem L2 KM
section
variable {K : PySem.W.Frag} {mg : Str → Option Value} {base : Heap} {P : Program} {w : World}
theorem same_upd2 {H : Hp} {p : Addr} {o o' : HO} (hp : H p = none) : Same H (upd (upd H p o) p o') := fun b u h => by
  rw [upd_ne (ne_of_none h hp), upd_ne (ne_of_none h hp)]
  exact h
/-- a loop by its walk: what is to be shown of a turn -/
theorem loop_walk {J : It} {n : Nat} {S : Hp → Prop} {Y : Nat → Hp → V → Hp → Prop} (wk : Walk J n S Y) {Tn : V → Hp → (Hp → Prop) → Prop} {H0 : Hp} {Qd : Hp → Prop} (Pv : Nat → Hp → Prop) (h0 : Pv 0 H0) (st : ∀ i H, i ≤ n → Pv i H → S H)
    (turn : ∀ i x H H', i < n → Pv i H → Y i H x H' → Tn x H' (Pv (i + 1))) (fin : ∀ H, Pv n H → Qd H) :
    ∃ W : Nat → Nat → Hp → Prop, (∃ m, W 0 m H0) ∧ ∀ i m H, W i m H → (J.stop i H ∧ Qd H) ∨ (J.go i H ∧ ∃ Nx : Hp → Prop, (∀ H', Nx H' → ∃ m', m' < m ∧ W (i + 1) m' H') ∧ ∀ x H', J.yld i H x H' → Tn x H' Nx) := by
  refine ⟨fun i left H => left = n - i ∧ i ≤ n ∧ Pv i H, ⟨n, by simp, Nat.zero_le n, h0⟩, ?_⟩
  rintro i left H ⟨rfl, hi, p⟩
  by_cases lt : i < n
  · exact .inr ⟨wk.goes i H lt (st i H hi p), Pv (i + 1), fun H' p' => ⟨n - (i + 1), by omega, rfl, lt, p'⟩, fun x H' y => turn i x H H' lt p (wk.yields i H x H' lt (st i H hi p) y)⟩
  · have e : i = n := by omega
    subst e
    exact .inl ⟨wk.stops H (st _ H hi p), fin H p⟩
/-! ### places_of, tuples_of -/
def spPlaces (K : PySem.W.Frag) : Sp := fun vs H Q _ => ∃ (t : Addr) (T : List Bool) (m : Nat), vs = [.ref t] ∧ SqT K H t (T.map bv) ∧ T.length = 2 ^ m ∧ 1 ≤ m ∧ m ≤ 3 ∧ ∀ H' : Hp, Same H H' → Q (.int m) H'
theorem scPl : FnScope ["table"] ["table"] (defScope sPl) := ⟨rfl, rfl, rfl, by decide +kernel, rfl, by decide +kernel, by decide +kernel⟩
theorem ok_places {f : Addr} {fd : FuncData} (F : Fun K "places_of" "places_of" sPl f fd) (T : Txt K mg) : FnOk P w K mg base CX0 1 f fd ["table"] (spPlaces K) := by
  refine F.ok scPl (fun vs H Q E h => ?_) (fun cdv A outer s H vs Q E hr h => ?_)
  · obtain ⟨t, _, _, rfl, _⟩ := h
    rfl
  · obtain ⟨t, Tb, m, rfl, hT, hTl, m1, m3, q⟩ := h
    have hu : (A.deeper (PyProof.Rows.envOfC (Str.ofString "places_of") (defScope sPl) s.heap.objs.size f cdv)).units + 1 < cLine := by have := hr.un; omega
    refine ⟨_, pss_one (ps_ret (pe_dget hu (pe_disp (pps_cons pe_int pe_int (pps_cons pe_int pe_int (pps_cons pe_int pe_int (pps_cons pe_int pe_int pps_nil)))) (by rfl) (by rfl) (fun z => by cases z) (by decide)) (pe_callB call_len_seq (by rfl) T.len PySem.boot_len (pa_cons (pv 0) pa_nil)) (fun _ _ => rfl))), ?_⟩
    intro p hp
    have e1 : ∀ o, Same H (upd (upd H p (.dK [])) p o) := fun o => same_upd2 hp
    refine ⟨upd_same, [(Sum.inl 2, .int 1), (Sum.inl 4, .int 2), (Sum.inl 8, .int 3), (Sum.inl 16, .int 4)], rfl, by decide, ?_⟩
    refine ⟨_, rfl, t, _, rfl, .inr (Same.tup (e1 _) hT), p, .int m, rfl, ?_, q _ (e1 _)⟩
    have g := DGet.k (k := Sum.inl ((Tb.map bv).length : Int)) (upd_same (H := upd H p (.dK [])) (a := p) (o := .dK (mergeK [] [(Sum.inl 2, .int 1), (Sum.inl 4, .int 2), (Sum.inl 8, .int 3), (Sum.inl 16, .int 4)])))
    have hv : valV (mergeK [] [((Sum.inl 2 : L2.Key), V.int 1), (Sum.inl 4, .int 2), (Sum.inl 8, .int 3), (Sum.inl 16, .int 4)]) (Sum.inl ((Tb.map bv).length : Int)) = some (.int m) := by
      rw [List.length_map, hTl]
      match m, m1, m3 with
      | 1, _, _ => rfl
      | 2, _, _ => rfl
      | 3, _, _ => rfl
    rw [hv] at g
    exact g
/-- all tuples of m items -/
def tupsV (us : List V) : Nat → List (List V)
  | 0 => [[]]
  | m + 1 => (tupsV us m).flatMap fun s => us.map fun u => s ++ [u]
def IsTupV (H : Hp) (v : V) (t : List V) : Prop := ∃ a, v = .ref a ∧ H a = some (.tup t)
theorem IsTupV.same {H H' : Hp} (e : Same H H') {v : V} {s : List V} (h : IsTupV H v s) : IsTupV H' v s := by
  obtain ⟨a, h1, h2⟩ := h
  exact ⟨a, h1, e _ _ h2⟩
theorem tupsV_mem {us : List V} : ∀ {m : Nat} {t : List V}, t ∈ tupsV us m ↔ t.length = m ∧ ∀ u ∈ t, u ∈ us
  | 0, t => by
    rw [tupsV]
    simp only [List.mem_singleton, List.length_eq_zero_iff]
    constructor
    · intro e; subst e; simp
    · exact fun h => h.1
  | m + 1, t => by
    rw [tupsV, List.mem_flatMap]
    constructor
    · rintro ⟨s, hs, ht⟩
      obtain ⟨u, hu, rfl⟩ := List.mem_map.mp ht
      obtain ⟨h1, h2⟩ := (tupsV_mem (m := m)).mp hs
      refine ⟨by simp [h1], fun x hx => ?_⟩
      rcases List.mem_append.mp hx with hx | hx
      · exact h2 x hx
      · simp at hx; subst hx; exact hu
    · rintro ⟨h1, h2⟩
      have hne : t ≠ [] := by intro e; subst e; simp at h1
      have e := List.dropLast_concat_getLast hne
      refine ⟨t.dropLast, (tupsV_mem (m := m)).mpr ⟨by simp [h1], fun u hu => h2 u (List.dropLast_subset _ hu)⟩, List.mem_map.mpr ⟨t.getLast hne, h2 _ (List.getLast_mem hne), e⟩⟩
theorem tupsV_length {us : List V} (h : us.length ≤ 16) : ∀ m, (tupsV us m).length ≤ 16 ^ m
  | 0 => by simp [tupsV]
  | m + 1 => by
    have ih := tupsV_length h m
    rw [tupsV, Nat.pow_succ]
    refine Nat.le_trans (Nat.le_of_eq ?_) (Nat.mul_le_mul ih h)
    rw [List.length_flatMap]
    generalize tupsV us m = l
    induction l with
    | nil => simp
    | cons a l ihl => rw [List.map_cons, List.sum_cons, ihl, List.length_map, List.length_cons, Nat.add_mul]; omega
/-- some + (x,) -/
theorem cat_tup {K : PySem.W.Frag} {H : Hp} {v : V} {s : List V} {t : Addr} {u : V} {Q : VK} (hv : IsTupV H v s) (hr : s.length ≤ 4) (ht : H t = some (.tup [u]))
    (k : ∀ (H' : Hp) (y : V), Same H H' → IsTupV H' y (s ++ [u]) → Q y H') : rCatA K v (.ref t) H Q := by
  obtain ⟨a, rfl, ha⟩ := hv
  refine ⟨a, t, _, _, rfl, rfl, SqT.of ha, SqT.of ht, ?_, fun e => ?_, fun _ e => (nomatch e), fun _ _ p hp => ?_⟩
  · rw [sizeLine_eq]
    simp
    omega
  · subst e
    exact k H _ (Same.refl H) ⟨t, rfl, ht⟩
  · exact k _ _ (same_new hp) ⟨p, rfl, upd_same⟩
def spTuples (K : PySem.W.Frag) : Sp := fun vs H Q _ => ∃ (a : Addr) (us : List V) (m : Nat), vs = [.ref a, .int m] ∧ SqL K H a us ∧ us.length ≤ 16 ∧ m ≤ 3 ∧
  ∀ (H' : Hp) (p : Addr) (ws : List V), Same H H' → H' p = some (.lst ws) → Paired (IsTupV H') ws (tupsV us m) → Q (.ref p) H'
abbrev nTup : List Str := ["rows", "many", "found", "_", "some", "row"]
theorem scTup : FnScope nTup ["rows", "many"] (defScope sTup) := ⟨rfl, rfl, rfl, by decide +kernel, rfl, by decide +kernel, by decide +kernel⟩
theorem ok_tuples {f : Addr} {fd : FuncData} (F : Fun K "tuples_of" "tuples_of" sTup f fd) (T : Txt K mg) : FnOk P w K mg base CX0 1 f fd ["rows", "many"] (spTuples K) := by
  refine F.ok scTup (fun vs H Q E h => ?_) (fun cdv A outer s H vs Q E hr h => ?_)
  · obtain ⟨a, _, _, rfl, _⟩ := h
    rfl
  · obtain ⟨a, us, m, rfl, hS, h16, m3, q⟩ := h
    refine ⟨_, pss_cons (ps_set (i := 2) scTup.nd rfl (.inl rfl) (pe_lst (pa_cons (pe_tup (pa_nil)) pa_nil)))
      (pss_cons (ps_for PassesOwn.never rfl (pi_range1 rfl T.range (pa_cons (pv 1) pa_nil)) (pg_name (i := 3) scTup.nd rfl (.inl rfl)) (pss_one (ps_setLc2 (i := 2) (own := [("some", 4), ("row", 5)]) (vs1 := [5]) (g := gName 4) (g1 := gName 5) (tt := tYes) (tt1 := tYes) (wi1 := iList K (tVar 0)) rfl scTup.nd rfl rfl (sw_true rfl rfl rfl (by decide +kernel)) (pi_list (pv 2)) (blkOk_by (N := nTup) (sc := defScope sTup) (by decide +kernel)) (by decide) (fun _ _ _ _ _ => pg_name (i := 4) scTup.nd rfl (.inl rfl)) (fun _ _ _ _ _ => pts_nil) (fun _ _ _ _ _ => pi_list (pv 0)) (fun _ _ _ _ _ => pg_name (i := 5) scTup.nd rfl (.inl rfl)) (fun _ _ _ _ _ => pts_nil) (fun _ _ _ _ _ => pe_op (r := rCatA K) op_catA (pv 4) (pe_tup (pa_cons (pv 5) pa_nil))))))
      (pss_one (ps_ret (pv 2)))), ?_⟩
    refine ⟨by show 0 ≤ sizeLine; decide, fun t0 ht0 => ⟨by show 1 ≤ sizeLine; decide, fun p hp => ?_⟩⟩
    have npt : t0 ≠ p := ne_of_none upd_same hp
    have hp0 : H p = none := (same_new ht0).free hp
    have e0 : Same H (upd (upd H t0 (.tup [])) p (.lst [.ref t0])) := same_upd (same_new ht0) hp0
    refine ⟨_, rfl, (m : Int), rfl, by omega, by omega, for_range (lo := 0) (n := (m : Int).toNat) (fun i σ H2 => ∃ (p : Addr) (ws : List V) (v3 v4 v5 : Option V), σ = [some (.ref a), some (.int m), some (.ref p), v3, v4, v5] ∧ Same H H2 ∧ H2 p = some (.lst ws) ∧ Paired (IsTupV H2) ws (tupsV us i))
      ⟨p, _, none, none, none, rfl, e0, upd_same, .cons ⟨t0, rfl, by rw [upd_ne npt, upd_same]⟩ .nil⟩ ?_ ?_⟩
    · rintro i σ H2 hi ⟨p, ws, v3, v4, v5, rfl, e2, hp2, hws⟩
      rw [Int.toNat_natCast] at hi
      have hwl := Paired.length hws
      have hcl : (tupsV us i).length ≤ 16 ^ 3 := Nat.le_trans (tupsV_length h16 i) (Nat.pow_le_pow_right (by decide) (by omega))
      have big : 16 ^ 3 * 16 + 16 < sizeLine := by decide
      refine ⟨_, rfl, p, rfl, ⟨ws, SqL.of hp2⟩, fun D hD => loop_walk (walk_list (K := K) (a := p) (xs := ws)) (fun j H3 => Same H2 H3 ∧ ∃ acc, H3 D = some (.lst acc) ∧ Paired (IsTupV H3) acc (((tupsV us i).take j).flatMap fun s => us.map fun u => s ++ [u]))
        ⟨same_new hD, [], upd_same, .nil⟩ (fun j H3 _ ⟨e3, _⟩ => SqL.of (e3 _ _ hp2)) ?_ ?_⟩
      · rintro j x H3 H3' hj ⟨e3, acc, hacc, hra⟩ ⟨rfl, hx⟩
        obtain ⟨s, hs, hsv⟩ := Paired.at_ hws hx
        have hsl := ((tupsV_mem (m := i)).mp (List.mem_of_getElem? hs)).1
        refine ⟨rfl, _, rfl, a, rfl, ⟨us, (e2.trans e3).seq hS⟩, loop_walk (walk_list (K := K) (a := a) (xs := us)) (fun r H4 => Same H2 H4 ∧ ∃ acc, H4 D = some (.lst acc) ∧ Paired (IsTupV H4) acc ((((tupsV us i).take j).flatMap fun s => us.map fun u => s ++ [u]) ++ (us.take r).map fun u => s ++ [u]))
          ⟨e3, acc, hacc, by rw [List.take_zero, List.map_nil, List.append_nil]; exact hra⟩ (fun r H4 _ ⟨e4, _⟩ => (e2.trans e4).seq hS) ?_ ?_⟩
        · rintro r y H4 H4' hr ⟨e4, acc, hacc, hra⟩ ⟨rfl, hy⟩
          refine ⟨rfl, _, rfl, _, rfl, by show 1 ≤ sizeLine; decide, fun t1 h1 => ?_⟩
          have f1 : Same H4' (upd H4' t1 (.tup [y])) := same_new h1
          refine cat_tup (hsv.same (e4.trans f1)) (by omega) upd_same fun H5 z f5 hz => ?_
          have f45 := f1.trans f5
          have kk : ∀ (v : V) (s : List V), IsTupV H5 v s → IsTupV (upd H5 D (.lst (acc ++ [z]))) v s := fun v s ⟨c, h1, h2⟩ => ⟨c, h1, by rw [upd_ne (ne_of h2 (f45 _ _ hacc) (by intro z; cases z))]; exact h2⟩
          refine ⟨acc, f45 _ _ hacc, ?_, same_upd (e4.trans f45) hD, acc ++ [z], upd_same, ?_⟩
          · have hal := Paired.length hra
            rw [List.length_append, List.length_map, List.length_take] at hal
            have hfl : ((((tupsV us i).take j).flatMap fun s => us.map fun u => s ++ [u])).length ≤ 16 ^ 3 * 16 := by
              refine Nat.le_trans (flat_le (fun s : List V => us.map fun u => s ++ [u]) 16 (fun s => by rw [List.length_map]; exact h16) _) (Nat.mul_le_mul_right 16 (Nat.le_trans ?_ hcl))
              exact List.length_take_le' _ _
            omega
          · rw [take_snoc hy, List.map_append, ← List.append_assoc]
            exact pair_append (Paired.mapP (Paired.mapP hra fun v s h => h.same f45) kk) (.cons (kk _ _ hz) .nil)
        · rintro H4 ⟨e4, acc, hacc, hra⟩
          refine ⟨e4, acc, hacc, ?_⟩
          rw [List.take_length] at hra
          rw [take_snoc hs, List.flatMap_append]
          simpa using hra
      · rintro H3 ⟨e3, acc, hacc, hra⟩
        rw [hwl, List.take_length] at hra
        exact ⟨D, acc, _, v4, v5, rfl, e2.trans e3, hacc, hra⟩
    · rintro σ H2 ⟨p, ws, v3, v4, v5, rfl, e2, hp2, hws⟩
      rw [Int.toNat_natCast] at hws
      exact ⟨_, rfl, q H2 p ws e2 hp2 hws⟩
end
end KW
end

section
set_option Elab.async false
set_option linter.all false
set_option maxRecDepth 100000
namespace KW
open PySem L2 KM
/-! ### table_of: a table, or Undefined('word') -/
/-- what the written part says of Undefined -/
structure UndTxt (K : PySem.W.Frag) (mg : Str → Option Value) (CU fU : Addr) : Prop where
  oex : OexC K CU
  noW : PySem.W.findIn K (.ref CU) "what" = some none
  iC : PySem.W.findIn K (.ref CU) "__init__" = some (some (.ref fU))
  tI : PySem.W.typeIn K (.ref fU) = some (.type "function")
  gU : mg "Undefined" = some (.ref CU)
/-- .. of TABLES -/
structure TabTxt (K : PySem.W.Frag) (w : World) (mg : Str → Option Value) (dT : Addr) : Prop where
  gT : mg "TABLES" = some (.ref dT)
  dict : ∃ es n, KDict K w dT es n
  has : ∀ z m T, Word z m T → ∃ t, PySem.W.nsIn K dT z = some (some (.ref t)) ∧ ∀ H, SqT K H t (T.map bv)
/-- v is no word of the table's -/
def Bad (K : PySem.W.Frag) (dT : Addr) (H : Hp) (v : V) : Prop := (∃ t, TyX K H v t ∧ PySem.W.kitOne K t (.type "str") = some false) ∨ ∃ z, v = .str z ∧ PySem.W.nsIn K dT z = some none
def whatF : List (Str × V) := [("what", .str "word")]
def Raised (H : Hp) (CU : Addr) (E : XK) : Prop := ∀ (H' : Hp) (d : Addr), Same H H' → H' d = some (.xd whatF) → E (.ref CU) (some d) H'
theorem Raised.imp {H H1 : Hp} {CU : Addr} {E : XK} (h : Raised H CU E) (e : Same H H1) : Raised H1 CU E := fun H' d e' hd => h H' d (e.trans e') hd
def spTabOf (K : PySem.W.Frag) (dT CU : Addr) : Sp := fun vs H Q E => ∃ v, vs = [v] ∧ ((∃ z m T, v = .str z ∧ Word z m T ∧ ∀ H' t, Same H H' → SqT K H' t (T.map bv) → Q (.ref t) H') ∨ (Bad K dT H v ∧ Raised H CU E))
def spUnd (CU : Addr) : Sp := fun vs H Q _ => ∃ (a : Addr) (y : V), vs = [.ref a, y] ∧ H a = some (exo a CU none) ∧ ∀ dx, H dx = none → dx ≠ a → Q .non (upd (upd H dx (exd dx [("what", y)])) a (exo a CU (some dx)))
section
variable {K : PySem.W.Frag} {mg : Str → Option Value} {base : Heap} {P : Program} {w : World}
theorem scUnd : FnScope ["self", "what"] ["self", "what"] (defScope sUndI) := ⟨rfl, rfl, rfl, by decide +kernel, rfl, by decide +kernel, by decide +kernel⟩
theorem ok_und {fU : Addr} {fd : FuncData} {CU : Addr} (F : Fun K "__init__" "Undefined.__init__" sUndI fU fd) (U : UndTxt K mg CU fU) : FnOk P w K mg base CX0 1 fU fd ["self", "what"] (spUnd CU) := by
  refine F.ok scUnd (fun vs H Q E h => ?_) (fun cdv A outer s H vs Q E hr h => ?_)
  · obtain ⟨a, y, rfl, _⟩ := h
    rfl
  · obtain ⟨a, y, rfl, ha, q⟩ := h
    refine ⟨_, pss_one (ps_ost (pv 0) (pv 1)), ?_⟩
    exact ⟨_, rfl, _, rfl, a, CU, rfl, U.oex, U.noW, .inl ⟨ha, fun dx h1 h2 => q dx h1 h2⟩⟩
theorem scTab : FnScope ["word"] ["word"] (defScope sTab) := ⟨rfl, rfl, rfl, by decide +kernel, rfl, by decide +kernel, by decide +kernel⟩
theorem ok_tabof {f fU dT CU : Addr} {fd fdU : FuncData} (F : Fun K "table_of" "table_of" sTab f fd) (T : Txt K mg) (FU : Fun K "__init__" "Undefined.__init__" sUndI fU fdU) (bU : Binds K fdU ["self", "what"] []) (U : UndTxt K mg CU fU) (TT : TabTxt K w mg dT) :
    FnOk P w K mg base (L2.CX P w) 3 f fd ["word"] (spTabOf K dT CU) := by
  have GU : FnOk P w K mg base CX0 1 fU fdU ["self", "what"] (spUnd CU) := ok_und FU U
  refine F.okX scTab (fun vs H Q E h => ?_) (fun cdv A outer s H vs Q E hr h => ?_)
  · obtain ⟨v, rfl, _⟩ := h
    rfl
  · obtain ⟨v, rfl, h⟩ := h
    obtain ⟨es, n, D⟩ := TT.dict
    refine ⟨_, pss_cons (ps_if (PW.pt (pw_or (pt_not (pt_val (pe_callB call_isi (by rfl) T.isinst (by decide +kernel) (pa_cons (pv 0) (pa_cons (pe_bltn (v := .ty "str") (by rfl) T.str (by decide +kernel) rfl) pa_nil))))) (pw_or1 (pt_cmpR (op_notIn_kd D) (pv 0) (pe_glob (v := .ref dT) rfl TT.gT rfl) (by rfl))))) (pss_one (ps_raise rfl (takes_of rfl rfl rfl rfl) (pmk_oex U.oex U.iC U.tI GU hr bU .nil pass0 rfl U.gU (pa_cons pe_str pa_nil)))) (pss_nil))
      (pss_one (ps_ret (pe_ix ix_kdict (pe_glob (v := .ref dT) rfl TT.gT rfl) (pv 0) (fun _ _ => rfl)))), ?_⟩
    have up : Raised H CU E → tMkO CU (spUnd CU) [] (tCons (tC (V.str (Str.ofString "word"))) tNil) (L2.start [Str.ofString "word"] [v]) H fun cls d H' => E cls d H' := fun r => by
      refine ⟨by decide, fun a ha => ⟨a, .str "word", rfl, upd_same, fun dx h1 h2 => ⟨rfl, dx, whatF, upd_same, by rw [upd_ne h2, upd_same]; rfl, ?_, r _ dx (fun b o e => ?_) upd_same⟩⟩⟩
      · rwa [upd_ne h2] at h1
      · have h1' : H dx = none := by rwa [upd_ne h2] at h1
        have n1 : b ≠ dx := ne_of_none e h1'
        have n2 : b ≠ a := ne_of_none e ha
        rw [upd_ne n1, del_ne n2, upd_ne n2, upd_ne n1, upd_ne n2]
        exact e
    rcases h with ⟨z, m, Tb, rfl, hz, q⟩ | ⟨⟨t, ty, hk⟩ | ⟨z, rfl, hz⟩, r⟩
    · obtain ⟨t, ht, hT⟩ := TT.has z m Tb hz
      refine ⟨_, rfl, _, _, _, _, true, rfl, .ty _, .base (.str z), kit_ty (by decide +kernel), true, rfl, iteF ?_⟩
      refine ⟨_, rfl, z, _, rfl, rfl, ht, _, rfl, iteF ?_⟩
      exact ⟨_, rfl, dT, z, .ref t, rfl, rfl, ⟨es, n, _, D.at_, D.lit, ht, rfl⟩, q H t (Same.refl H) (hT H)⟩
    · exact ⟨_, rfl, _, _, t, _, false, rfl, .ty _, ty, hk, false, rfl, iteT (iteT (up r))⟩
    · refine ⟨_, rfl, _, _, _, _, true, rfl, .ty _, .base (.str z), kit_ty (by decide +kernel), true, rfl, iteF ?_⟩
      exact ⟨_, rfl, z, _, rfl, rfl, hz, _, rfl, iteT (up r)⟩
end
end KW
end

section
set_option Elab.async false
set_option linter.all false
set_option maxRecDepth 100000
namespace KW
open PySem L2 KM
/-! ### Relation(size, rows) -/
/-- what the written part says of Relation -/
structure RelTxt (K : PySem.W.Frag) (mg : Str → Option Value) (C fI : Addr) : Prop where
  cl : Cls K C
  nS : NoAttr K C "size"
  nR : NoAttr K C "rows"
  mkC : Mk K C fI
  gC : mg "Relation" = some (.ref C)
  gM : ∃ t, mg "MOST_PLACES" = some (.int 4 t)
def relF (k : Nat) (t : Addr) : List (Str × V) := [("size", .int k), ("rows", .ref t)]
theorem lk_1 {k : Str} {v : V} {r : List (Str × V)} : List.lookup k ((k, v) :: r) = some v := by
  have e : (k == k) = true := beq_self_eq_true k
  simp only [List.lookup, e]
theorem lk_2 {k g : Str} {v : V} {r : List (Str × V)} (h : (k == g) = false) : List.lookup k ((g, v) :: r) = List.lookup k r := by simp only [List.lookup, h]
theorem relF_size (k : Nat) (t : Addr) : (relF k t).lookup ("size" : Str) = some (.int k) := lk_1
theorem relF_rows (k : Nat) (t : Addr) : (relF k t).lookup ("rows" : Str) = some (.ref t) := (lk_2 (by decide +kernel)).trans lk_1
theorem relF_put (k : Nat) (t : Addr) : putF "rows" (.ref t) (putF "size" (.int k) []) = relF k t := (if_neg (by decide +kernel : ¬ ("size" : Str) = "rows")).trans rfl
/-- at p: a relation of k places with the rows L -/
structure RelAt (C : Addr) (H : Hp) (p : Addr) (k : Nat) (L : List Row) : Prop where
  at_ : ∃ (dx t : Addr) (us : List V), H p = some (.ins C dx (relF k t)) ∧ H t = some (.tup us) ∧ RowsAt H us L
theorem RelAt.same {C : Addr} {H H' : Hp} {p : Addr} {k : Nat} {L : List Row} (e : Same H H') (h : RelAt C H p k L) : RelAt C H' p k L := by
  obtain ⟨dx, t, us, h1, h2, h3⟩ := h
  exact ⟨dx, t, us, e _ _ h1, e _ _ h2, h3.same e⟩
/-- rows, each once, of k places -/
structure RowsOk (k : Nat) (rs : List Row) : Prop where
  k1 : 1 ≤ k
  k4 : k ≤ 4
  ne : rs ≠ []
  nd : rs.Nodup
  len : ∀ r ∈ rs, r.length = k
theorem RowsOk.small {k : Nat} {rs : List Row} (h : RowsOk k rs) : rs.length ≤ 16 := Nat.le_trans (rows_le h.nd h.len) (Nat.pow_le_pow_right (n := 2) (by decide) h.k4)
def spRel (C : Addr) : Sp := fun vs H Q _ => ∃ (p dx a : Addr) (us : List V) (rs : List Row) (k : Nat), vs = [.ref p, .int k, .ref a] ∧ H p = some (.ins C dx []) ∧ (H a = some (.lst us) ∨ H a = some (.tup us)) ∧ RowsAt H us rs ∧ RowsOk k rs ∧
  ∀ (H' : Hp) (L : List Row), (∀ b o, H b = some o → b ≠ p → H' b = some o) → RelAt C H' p k L → L.Perm rs → Asc L → Q .non H'
theorem asc_of {k : Nat} : ∀ {L : List Row}, L.Nodup → (∀ r ∈ L, r.length = k) → L.Pairwise (fun x y => num x ≤ num y) → Asc L
  | [], _, _, _ => .nil
  | a :: L, h1, h2, h3 => by
    obtain ⟨n1, n2⟩ := List.nodup_cons.mp h1
    obtain ⟨p1, p2⟩ := List.pairwise_cons.mp h3
    refine List.pairwise_cons.mpr ⟨fun b hb => ?_, asc_of n2 (fun r hr => h2 r (List.mem_cons_of_mem _ hr)) p2⟩
    rcases Nat.lt_or_eq_of_le (p1 b hb) with c | c
    · exact c
    · exact absurd (num_inj k a b (h2 a List.mem_cons_self) (h2 b (List.mem_cons_of_mem _ hb)) c ▸ hb) n1
theorem putK_new {kvs : List (List L2.Key × V)} {k : List L2.Key} {v : V} (h : k ∉ kvs.map (·.1)) : putK kvs k v = kvs ++ [(k, v)] := by
  unfold putK
  rw [if_neg]
  rw [List.any_eq_true]
  rintro ⟨kv, hm, e⟩
  exact h (List.mem_map.mpr ⟨kv, hm, of_decide_eq_true e⟩)
theorem rk_notin {rs : List Row} {i : Nat} {r : Row} (h : rs.Nodup) (hr : rs[i]? = some r) : rk r ∉ (rs.take i).map rk := by
  intro hm
  obtain ⟨q, hq, e⟩ := List.mem_map.mp hm
  have hn : (rs.take (i + 1)).Nodup := h.sublist (List.take_sublist _ _)
  rw [take_snoc hr] at hn
  exact (List.nodup_append.mp hn).2.2 q hq r (by simp) (rk_inj e)
section
variable {K : PySem.W.Frag} {mg : Str → Option Value} {base : Heap} {P : Program} {w : World}
abbrev nRel : List Str := ["self", "size", "rows", "row"]
theorem scRel : FnScope nRel ["self", "size", "rows"] (defScope sRelI) := ⟨rfl, rfl, rfl, by decide +kernel, rfl, by decide +kernel, by decide +kernel⟩
theorem ok_rel {C fI fB fR : Addr} {fd fdB fdR : FuncData} (F : Fun K "__init__" "Relation.__init__" sRelI fI fd) (T : Txt K mg) (R : RelTxt K mg C fI) (CB : Cal P w K mg base 1 "is_below" fB fdB ["value", "limit"] spBelow)
    (CR : Cal P w K mg base 3 "are_rows" fR fdR ["rows", "size"] (spRowsQ K)) : FnOk P w K mg base CX0 4 fI fd ["self", "size", "rows"] (spRel C) := by
  refine F.ok scRel (fun vs H Q E h => ?_) (fun cdv A outer s H vs Q E hr h => ?_)
  · obtain ⟨p, _, a, _, _, _, rfl, _⟩ := h
    rfl
  · obtain ⟨p, dx, a, us, rs, k, rfl, hp, ha, hR, ok, q⟩ := h
    obtain ⟨tM, gM⟩ := R.gM
    have hu : (A.deeper (PyProof.Rows.envOfC (Str.ofString "Relation.__init__") (defScope sRelI) s.heap.objs.size fI cdv)).units < cLine := by have := hr.un; omega
    rcases ha with ha | ha
    · refine ⟨_, pss_cons (ps_if (PW.pt (pw_or (pt_not (pt_val (pe_call CB.ok (hr.mono (by decide)) rfl CB.mg CB.kp CB.b .nil pass0 (pa_cons (pv 1) (pa_cons (pe_op op_add (pe_glob (v := .int 4) rfl gM ⟨_, rfl⟩) (pe_int)) pa_nil))))) (pw_or (pt_cmpR op_eq (pv 1) (pe_int) (nomark _)) (pw_or1 (pt_not (pt_val (pe_call CR.ok hr rfl CR.mg CR.kp CR.b .nil pass0 (pa_cons (pv 2) (pa_cons (pv 1) pa_nil))))))))) (pss_never) (pss_nil))
      (pss_cons (ps_fld (pv 0) (pv 1) rfl)
      (pss_one (ps_fld (pv 0) (pe_callTy call_tuple_of (by rfl) T.tuple (by decide +kernel) (pa_cons (pe_callB (cr_sortDt rfl) (by rfl) T.sorted (by decide +kernel) (pa_cons (pe_dt (own := [("row", 3)]) (g := gName 3) (tt := tYes) hu rfl scRel.nd (pi_list (pv 2)) (blkOk_by (N := nRel) (sc := defScope sRelI) (by decide +kernel)) (fun _ _ _ _ _ => pg_name (i := 3) scRel.nd rfl (.inl rfl)) (fun _ _ _ _ _ => pts_nil) (fun _ _ _ _ _ => pv 3) (fun _ _ _ _ _ => pe_bl)) pa_nil)) pa_nil)) rfl))), ?_⟩
      have hk1 := ok.k1
      have hk4 := ok.k4
      have h16 := ok.small
      refine ⟨_, rfl, _, _, rfl, rfl, (k : Int), (4 : Int) + 1, rfl, true, ?_, iteF ?_⟩
      · have c1 : decide ((0 : Int) ≤ (k : Int)) = true := decide_eq_true (by omega)
        have c2 : decide ((k : Int) < (4 : Int) + 1) = true := decide_eq_true (by omega)
        rw [c1, c2]
        rfl
      refine ⟨_, rfl, rfl, _, rfl, ?_⟩
      refine ite2 (fun c => ?_) (fun _ => ?_)
      · have c' := of_decide_eq_true c
        injection c' with c'
        omega
      refine ⟨_, rfl, _, rfl, a, us, rs, k, rfl, .inl ha, hR, ok.ne, ok.len, fun H1 e1 => ⟨true, rfl, iteF ?_⟩⟩
      have hp1 := e1 _ _ hp
      have ha1 := e1 _ _ ha
      have hR1 := hR.same e1
      refine ⟨_, rfl, _, rfl, p, C, dx, [], rfl, hp1, R.cl, R.nS, by decide, ?_⟩
      -- self.rows = tuple(sorted({row: True for row in rows}))
      have kp : Kp p H1 (upd H1 p (.ins C dx (putF "size" (.int k) []))) := (Kp.refl p H1).upd
      have hnp : a ≠ p := ne_of ha1 hp1 (by intro z; cases z)
      have ha2 := kp _ _ ha1 hnp
      have hR2 : RowsAt (upd H1 p (.ins C dx (putF "size" (.int k) []))) us rs := Paired.mapP hR1 fun _ _ ⟨b, h1, h2⟩ => ⟨b, h1, kp _ _ h2 (ne_of h2 hp1 (by intro z; cases z))⟩
      refine ⟨_, rfl, a, rfl, ⟨_, SqL.of ha2⟩, fun D hD => loop_walk (walk_list (K := K) (a := a) (xs := us)) (fun i H3 => Same (upd H1 p (.ins C dx (putF "size" (.int k) []))) H3 ∧ H3 D = some (.dT ((rs.take i).map fun r => (rk r, V.bl true))))
        ⟨same_new hD, upd_same⟩ (fun i H3 _ ⟨e3, _⟩ => SqL.of (e3 _ _ ha2)) ?_ ?_⟩
      · rintro i x H3 H3' hi ⟨e3, hd⟩ ⟨rfl, hx⟩
        obtain ⟨r, hr, b, rfl, hb⟩ := Paired.at_ hR2 hx
        refine ⟨rfl, _, rfl, b, _, rk r, rfl, hd, by rw [rk_vals]; exact e3 _ _ hb, ?_, same_upd e3 hD, ?_⟩
        · rw [List.length_map, List.length_take, sizeLine_eq]
          omega
        · rw [upd_same, putK_new, take_snoc hr, List.map_append]
          · rfl
          · rw [List.map_map]
            exact rk_notin ok.nd hr
      · rintro H3 ⟨e3, hd⟩
        rw [hR.length, List.take_length] at hd
        refine ⟨D, _, rs, k, rfl, hd, by rw [List.map_map]; rfl, by omega, hk1, ok.len, fun l us' L hl hL perm asc => ?_⟩
        have e4 : Same H3 (upd H3 l (.lst us')) := same_new hl
        refine ⟨l, us', rfl, .inl ⟨SqL.of upd_same, fun t ht => ?_⟩⟩
        have e5 : Same (upd H3 l (.lst us')) (upd (upd H3 l (.lst us')) t (.tup us')) := same_new ht
        have e25 := e3.trans (e4.trans e5)
        have hp5 := e25 _ _ (upd_same (H := H1) (a := p) (o := .ins C dx (putF "size" (.int k) [])))
        have nd : L.Nodup := perm.nodup_iff.mpr ok.nd
        have ln : ∀ r ∈ L, r.length = k := fun r hr => ok.len r (perm.mem_iff.mp hr)
        refine ⟨_, rfl, p, C, dx, _, rfl, hp5, R.cl, R.nR, by show 1 < 1000; decide, q _ L (fun b o hb hbp => ?_) ⟨dx, t, us', by rw [upd_same, relF_put], ?_, ?_⟩ perm (asc_of nd ln asc)⟩
        · rw [upd_ne hbp]
          exact e25 _ _ (kp _ _ (e1 _ _ hb) hbp)
        · rw [upd_ne (ne_of upd_same hp5 (by intro z; cases z)), upd_same]
        · have hL5 := hL.same (e4.trans e5)
          exact Paired.mapP hL5 fun _ _ ⟨b, h1, h2⟩ => ⟨b, h1, by rw [upd_ne (ne_of h2 hp5 (by intro z; cases z))]; exact h2⟩
    · refine ⟨_, pss_cons (ps_if (PW.pt (pw_or (pt_not (pt_val (pe_call CB.ok (hr.mono (by decide)) rfl CB.mg CB.kp CB.b .nil pass0 (pa_cons (pv 1) (pa_cons (pe_op op_add (pe_glob (v := .int 4) rfl gM ⟨_, rfl⟩) (pe_int)) pa_nil))))) (pw_or (pt_cmpR op_eq (pv 1) (pe_int) (nomark _)) (pw_or1 (pt_not (pt_val (pe_call CR.ok hr rfl CR.mg CR.kp CR.b .nil pass0 (pa_cons (pv 2) (pa_cons (pv 1) pa_nil))))))))) (pss_never) (pss_nil))
      (pss_cons (ps_fld (pv 0) (pv 1) rfl)
      (pss_one (ps_fld (pv 0) (pe_callTy call_tuple_of (by rfl) T.tuple (by decide +kernel) (pa_cons (pe_callB (cr_sortDt rfl) (by rfl) T.sorted (by decide +kernel) (pa_cons (pe_dt (own := [("row", 3)]) (g := gName 3) (tt := tYes) hu rfl scRel.nd (pi_tup (pv 2)) (blkOk_by (N := nRel) (sc := defScope sRelI) (by decide +kernel)) (fun _ _ _ _ _ => pg_name (i := 3) scRel.nd rfl (.inl rfl)) (fun _ _ _ _ _ => pts_nil) (fun _ _ _ _ _ => pv 3) (fun _ _ _ _ _ => pe_bl)) pa_nil)) pa_nil)) rfl))), ?_⟩
      have hk1 := ok.k1
      have hk4 := ok.k4
      have h16 := ok.small
      refine ⟨_, rfl, _, _, rfl, rfl, (k : Int), (4 : Int) + 1, rfl, true, ?_, iteF ?_⟩
      · have c1 : decide ((0 : Int) ≤ (k : Int)) = true := decide_eq_true (by omega)
        have c2 : decide ((k : Int) < (4 : Int) + 1) = true := decide_eq_true (by omega)
        rw [c1, c2]
        rfl
      refine ⟨_, rfl, rfl, _, rfl, ?_⟩
      refine ite2 (fun c => ?_) (fun _ => ?_)
      · have c' := of_decide_eq_true c
        injection c' with c'
        omega
      refine ⟨_, rfl, _, rfl, a, us, rs, k, rfl, .inr ha, hR, ok.ne, ok.len, fun H1 e1 => ⟨true, rfl, iteF ?_⟩⟩
      have hp1 := e1 _ _ hp
      have ha1 := e1 _ _ ha
      have hR1 := hR.same e1
      refine ⟨_, rfl, _, rfl, p, C, dx, [], rfl, hp1, R.cl, R.nS, by decide, ?_⟩
      -- self.rows = tuple(sorted({row: True for row in rows}))
      have kp : Kp p H1 (upd H1 p (.ins C dx (putF "size" (.int k) []))) := (Kp.refl p H1).upd
      have hnp : a ≠ p := ne_of ha1 hp1 (by intro z; cases z)
      have ha2 := kp _ _ ha1 hnp
      have hR2 : RowsAt (upd H1 p (.ins C dx (putF "size" (.int k) []))) us rs := Paired.mapP hR1 fun _ _ ⟨b, h1, h2⟩ => ⟨b, h1, kp _ _ h2 (ne_of h2 hp1 (by intro z; cases z))⟩
      refine ⟨_, rfl, a, rfl, ⟨_, SqT.of ha2⟩, fun D hD => loop_walk (walk_tup (K := K) (a := a) (xs := us)) (fun i H3 => Same (upd H1 p (.ins C dx (putF "size" (.int k) []))) H3 ∧ H3 D = some (.dT ((rs.take i).map fun r => (rk r, V.bl true))))
        ⟨same_new hD, upd_same⟩ (fun i H3 _ ⟨e3, _⟩ => SqT.of (e3 _ _ ha2)) ?_ ?_⟩
      · rintro i x H3 H3' hi ⟨e3, hd⟩ ⟨rfl, hx⟩
        obtain ⟨r, hr, b, rfl, hb⟩ := Paired.at_ hR2 hx
        refine ⟨rfl, _, rfl, b, _, rk r, rfl, hd, by rw [rk_vals]; exact e3 _ _ hb, ?_, same_upd e3 hD, ?_⟩
        · rw [List.length_map, List.length_take, sizeLine_eq]
          omega
        · rw [upd_same, putK_new, take_snoc hr, List.map_append]
          · rfl
          · rw [List.map_map]
            exact rk_notin ok.nd hr
      · rintro H3 ⟨e3, hd⟩
        rw [hR.length, List.take_length] at hd
        refine ⟨D, _, rs, k, rfl, hd, by rw [List.map_map]; rfl, by omega, hk1, ok.len, fun l us' L hl hL perm asc => ?_⟩
        have e4 : Same H3 (upd H3 l (.lst us')) := same_new hl
        refine ⟨l, us', rfl, .inl ⟨SqL.of upd_same, fun t ht => ?_⟩⟩
        have e5 : Same (upd H3 l (.lst us')) (upd (upd H3 l (.lst us')) t (.tup us')) := same_new ht
        have e25 := e3.trans (e4.trans e5)
        have hp5 := e25 _ _ (upd_same (H := H1) (a := p) (o := .ins C dx (putF "size" (.int k) [])))
        have nd : L.Nodup := perm.nodup_iff.mpr ok.nd
        have ln : ∀ r ∈ L, r.length = k := fun r hr => ok.len r (perm.mem_iff.mp hr)
        refine ⟨_, rfl, p, C, dx, _, rfl, hp5, R.cl, R.nR, by show 1 < 1000; decide, q _ L (fun b o hb hbp => ?_) ⟨dx, t, us', by rw [upd_same, relF_put], ?_, ?_⟩ perm (asc_of nd ln asc)⟩
        · rw [upd_ne hbp]
          exact e25 _ _ (kp _ _ (e1 _ _ hb) hbp)
        · rw [upd_ne (ne_of upd_same hp5 (by intro z; cases z)), upd_same]
        · have hL5 := hL.same (e4.trans e5)
          exact Paired.mapP hL5 fun _ _ ⟨b, h1, h2⟩ => ⟨b, h1, by rw [upd_ne (ne_of h2 hp5 (by intro z; cases z))]; exact h2⟩
end
end KW
end

section
set_option Elab.async false
set_option linter.all false
set_option maxRecDepth 100000
namespace KW
open PySem L2 KM
/-! ### least_kept -/
structure CalX (P : Program) (w : World) (K : PySem.W.Frag) (mg : Str → Option Value) (base : Heap) (k : Nat) (x : Str) (f : Addr) (fd : FuncData) (ps : List Str) (sp : Sp) : Prop where
  ok : FnOk P w K mg base (L2.CX P w) k f fd ps sp
  mg : mg x = some (.ref f)
  kp : PySem.W.keepIn K (.ref f) = true
  b : Binds K fd ps []
def spLeast (K : PySem.W.Frag) (dT CU C : Addr) : Sp := fun vs H Q E => ∃ (p : Addr) (v : V) (k : Nat) (L0 : List Row), vs = [.ref p, v] ∧ RelAt C H p k L0 ∧ RowsOk k L0 ∧
  ((∃ z m T, v = .str z ∧ Word z m T ∧ ∀ (H' : Hp) (q : Addr) (L : List Row), Same H H' → RelAt C H' q k L → Asc L → (∀ r, r ∈ L ↔ Cl m T k (fun r => r ∈ L0) r) → Q (.ref q) H') ∨ (Bad K dT H v ∧ Raised H CU E))
theorem ro_inj {r q : Row} (h : ro r = ro q) : r = q := by
  induction r generalizing q with
  | nil => cases q with
    | nil => rfl
    | cons _ _ => cases h
  | cons a r ih => cases q with
    | nil => cases h
    | cons b q =>
      have h1 := List.cons.inj (show bv a :: ro r = bv b :: ro q from h)
      have h2 : bi a = bi b := V.int.inj h1.1
      have h3 : a = b := by revert h2; cases a <;> cases b <;> simp [bi]
      rw [h3, ih h1.2]
theorem IsRow.eq {H : Hp} {v : V} {r q : Row} (h : IsRow H v r) (h' : IsRow H v q) : r = q := by
  obtain ⟨a, rfl, ha⟩ := h
  obtain ⟨b, e, hb⟩ := h'
  cases e
  rw [ha] at hb
  have e := Option.some.inj hb
  injection e with e
  exact ro_inj e
theorem RowsAt.eq {H : Hp} : ∀ {t : List V} {qs qs' : List Row}, RowsAt H t qs → RowsAt H t qs' → qs = qs'
  | _, _, _, .nil, .nil => rfl
  | _, _, _, .cons a t, .cons b u => by rw [IsRow.eq a b, RowsAt.eq t u]
theorem rows_pick {H : Hp} {us : List V} {rs : List Row} (h : RowsAt H us rs) : ∀ qs : List Row, (∀ q ∈ qs, q ∈ rs) → ∃ t, RowsAt H t qs ∧ ∀ u ∈ t, u ∈ us
  | [], _ => ⟨[], .nil, fun _ h => by simp at h⟩
  | q :: qs, hq => by
    obtain ⟨t, h1, h2⟩ := rows_pick h qs fun x hx => hq x (List.mem_cons_of_mem _ hx)
    obtain ⟨i, hi⟩ := List.mem_iff_getElem?.mp (hq q List.mem_cons_self)
    obtain ⟨u, hu, r⟩ := Paired.at' h hi
    refine ⟨u :: t, .cons r h1, fun x hx => ?_⟩
    rcases List.mem_cons.mp hx with e | hx
    · rw [e]; exact List.mem_of_getElem? hu
    · exact h2 x hx
theorem rows_unpick {H : Hp} {us : List V} {rs : List Row} (h : RowsAt H us rs) : ∀ t : List V, (∀ u ∈ t, u ∈ us) → ∃ qs, RowsAt H t qs ∧ ∀ q ∈ qs, q ∈ rs
  | [], _ => ⟨[], .nil, fun _ h => by simp at h⟩
  | u :: t, hu => by
    obtain ⟨qs, h1, h2⟩ := rows_unpick h t fun x hx => hu x (List.mem_cons_of_mem _ hx)
    obtain ⟨i, hi⟩ := List.mem_iff_getElem?.mp (hu u List.mem_cons_self)
    obtain ⟨q, hq, r⟩ := Paired.at_ h hi
    refine ⟨q :: qs, .cons r h1, fun x hx => ?_⟩
    rcases List.mem_cons.mp hx with e | hx
    · rw [e]; exact List.mem_of_getElem? hq
    · exact h2 x hx
/-- a row as an entry of made -/
def kt (r : Row) : List L2.Key × V := (rk r, .bl true)
theorem kt_put {ks : List Row} {r : Row} : putK (ks.map kt) (rk r) (.bl true) = (if r ∈ ks then ks else ks ++ [r]).map kt := by
  have hm : (rk r ∈ (ks.map kt).map (·.1)) ↔ r ∈ ks := by
    rw [List.map_map, List.mem_map]
    constructor
    · rintro ⟨q, hq, e⟩
      exact rk_inj (show rk q = rk r from e) ▸ hq
    · exact fun h => ⟨r, h, rfl⟩
  by_cases c : r ∈ ks
  · rw [if_pos c]
    unfold putK
    rw [if_pos]
    · rw [List.map_map]
      refine List.map_congr_left fun q _ => ?_
      show (if rk q = rk r then (rk q, V.bl true) else kt q) = kt q
      by_cases e : rk q = rk r
      · rw [if_pos e]; rfl
      · rw [if_neg e]
    · rw [List.any_eq_true]
      obtain ⟨kv, h1, h2⟩ := List.mem_map.mp (hm.mpr c)
      exact ⟨kv, h1, decide_eq_true h2⟩
  · rw [if_neg c, putK_new (fun h => c (hm.mp h)), List.map_append]
    rfl
/-- rows that are no tuples' place -/
theorem RowsAt.upd {H : Hp} {a : Addr} {o : HO} {us : List V} {rs : List Row} (h : RowsAt H us rs) (ha : ∀ xs, H a ≠ some (.tup xs)) : RowsAt (upd H a o) us rs := Paired.mapP h fun _ _ ⟨b, h1, h2⟩ => ⟨b, h1, by rw [upd_ne (fun e => ha _ (e ▸ h2))]; exact h2⟩
/-- what the loop holds -/
structure LkInv (m : Nat) (Tb : List Bool) (k : Nat) (L0 rs : List Row) (b : Bool) : Prop where
  nd : rs.Nodup
  cl : ∀ r ∈ rs, Cl m Tb k (fun r => r ∈ L0) r
  sub : ∀ r ∈ L0, r ∈ rs
  fin : b = false → Closed m Tb k rs
abbrev nLk : List Str := ["relation", "word", "table", "many", "rows", "news", "some", "made", "row", "more"]
theorem scLk : FnScope nLk ["relation", "word"] (defScope sLk) := ⟨rfl, rfl, rfl, by decide +kernel, rfl, by decide +kernel, by decide +kernel⟩
section
variable {K : PySem.W.Frag} {mg : Str → Option Value} {base : Heap} {P : Program} {w : World}
theorem ok_least {f fT fP fTu fM fI dT CU C : Addr} {fd fdT fdP fdTu fdM fdI : FuncData} (F : Fun K "least_kept" "least_kept" sLk f fd) (T : Txt K mg) (CT : CalX P w K mg base 3 "table_of" fT fdT ["word"] (spTabOf K dT CU))
    (CP : Cal P w K mg base 1 "places_of" fP fdP ["table"] (spPlaces K)) (CTu : Cal P w K mg base 1 "tuples_of" fTu fdTu ["rows", "many"] (spTuples K)) (CM : Cal P w K mg base 3 "made_row" fM fdM ["table", "rows"] (spMadeRow K))
    (R : RelTxt K mg C fI) (GI : FnOk P w K mg base CX0 4 fI fdI ["self", "size", "rows"] (spRel C)) (bI : Binds K fdI ["self", "size", "rows"] []) :
    FnOk P w K mg base (L2.CX P w) 6 f fd ["relation", "word"] (spLeast K dT CU C) := by
  refine F.okX scLk (fun vs H Q E h => ?_) (fun cdv A outer s H vs Q E hr h => ?_)
  · obtain ⟨p, v, _, _, rfl, _⟩ := h
    rfl
  · obtain ⟨p, v, k, L0, rfl, hp, ok, h⟩ := h
    have hu := hu65 hr
    have hu0 : (A.deeper (PyProof.Rows.envOfC (Str.ofString "least_kept") (defScope sLk) s.heap.objs.size f cdv)).units < cLine := by have := hr.un; omega
    refine ⟨_, pss_cons (ps_set (i := 2) scLk.nd rfl (.inr rfl) (pe_call CT.ok (hr.mono (by decide)) rfl CT.mg CT.kp CT.b .nil (passes_call (takes_of rfl rfl rfl rfl) fun _ _ _ _ h => h) (pa_cons (pv 1) pa_nil))) (PSs.nox (pss_cons (ps_set (i := 3) scLk.nd rfl (.inl rfl) (pe_call CP.ok (hr.mono (by decide)) rfl CP.mg CP.kp CP.b .nil pass0 (pa_cons (pv 2) pa_nil)))
      (pss_cons (ps_set (i := 4) scLk.nd rfl (.inr rfl) (pe_callTy call_list_of (by rfl) T.list (by decide +kernel) (pa_cons (pe_fld (pv 0) rfl) pa_nil)))
      (pss_cons (ps_set (i := 5) scLk.nd rfl (.inl rfl) (pe_bl))
      (pss_cons (ps_while PassesOwn.never (pt_val (pv 5)) (pss_cons (ps_setDt (i := 7) (own := [("some", 6)]) (g := gName 6) (tt := tYes) hu0 rfl scLk.nd rfl rfl (swd_true rfl rfl rfl (by decide +kernel)) (pi_list (pe_call CTu.ok (hr.mono (by decide)) rfl CTu.mg CTu.kp CTu.b .nil pass0 (pa_cons (pv 4) (pa_cons (pv 3) pa_nil)))) (blkOk_by (N := nLk) (sc := defScope sLk) (by decide +kernel)) (fun _ _ _ _ _ => pg_name (i := 6) scLk.nd rfl (.inl rfl)) (fun _ _ _ _ _ => pts_nil) (fun _ _ _ _ _ => pe_call CM.ok (hr.mono (by decide)) rfl CM.mg CM.kp CM.b .nil pass0 (pa_cons (pv 2) (pa_cons (pv 6) pa_nil))) (fun _ _ _ _ _ => pe_bl))
      (pss_cons (ps_lock (ps_setLc (i := 9) (own := [("row", 8)]) (g := gName 8) (tt := tTest (tOp (rNotInD K) (tVar 8) (tVar 4))) rfl scLk.nd rfl rfl (sw_true rfl rfl rfl (by decide +kernel)) (pi_keys (pv 7)) (blkOk_by (N := nLk) (sc := defScope sLk) (by decide +kernel)) (fun _ _ _ _ _ => pg_name (i := 8) scLk.nd rfl (.inl rfl)) (fun _ _ _ _ _ => pts_one (pt_cmpR (op_notInD hu) (pv 8) (pv 4) (by rfl))) (fun _ _ _ _ _ => pv 8)))
      (pss_cons (ps_expr (pe_bm PySem.F.plainAttrs_list PySem.F.slot_list_extend PySem.F.type_list_extend mt_extend (pv 4) (pa_cons (pv 9) pa_nil)))
      (pss_one (ps_set (i := 5) scLk.nd rfl (.inl rfl) (pe_cmp (pc_gt (pe_callB call_len_seq (by rfl) T.len PySem.boot_len (pa_cons (pv 9) pa_nil)) (pe_int)) (by rfl))))))))
      (pss_one (ps_ret (pe_make R.mkC GI hr rfl R.gC bI .nil pass0 (pa_cons (pe_fld (pv 0) rfl) (pa_cons (pv 4) pa_nil)))))))))), ?_⟩
    have hk1 := ok.k1
    have hk4 := ok.k4
    rcases h with ⟨z, m, Tb, rfl, hz, q⟩ | ⟨bad, r⟩
    · obtain ⟨m1, m3⟩ := hz.pos
      have hTl := hz.len
      obtain ⟨dx, tr, us0, hp0, htr, hus0⟩ := hp.at_
      refine ⟨_, rfl, _, rfl, .inl ⟨z, m, Tb, rfl, hz, fun H1 t e1 hT1 => ?_⟩⟩
      refine ⟨_, rfl, t, Tb, m, rfl, hT1, hTl, m1, m3, fun H2 e2 => ?_⟩
      have e12 := e1.trans e2
      refine ⟨_, rfl, p, C, dx, _, _, rfl, e12 _ _ hp0, R.cl, R.nR, relF_rows k tr, tr, us0, rfl, .inr (SqT.of (e12 _ _ htr)), fun l hl => ?_⟩
      generalize hH3 : upd H2 l (.lst us0) = H3
      have e3 : Same H2 H3 := by rw [← hH3]; exact same_new hl
      have hl3 : H3 l = some (.lst us0) := by rw [← hH3]; exact upd_same
      have e03 : Same H H3 := e12.trans e3
      have hl0 : H l = none := e12.free hl
      have hT3 : SqT K H3 t (Tb.map bv) := Same.tup (e2.trans e3) hT1
      have hTk : ∀ {H' : Hp}, Kp l H3 H' → SqT K H' t (Tb.map bv) := fun kp => hT3.elim (fun h => h.elim (fun h => .inl (.inl (kp _ _ h (ne_of h hl3 (by intro z; cases z))))) fun ⟨o, h⟩ => .inl (.inr ⟨o, kp _ _ h (ne_of h hl3 (by intro z; cases z))⟩)) .inr
      have still : ∀ {H' : Hp}, Kp l H3 H' → Same H H' := fun kp b o h => kp b o (e03 b o h) (ne_of_none h hl0)
      refine while_by (fun σ H4 => ∃ (us : List V) (rs : List Row) (b : Bool) (v6 v7 v8 v9 : Option V), σ = [some (.ref p), some (.str z), some (.ref t), some (.int m), some (.ref l), some (.bl b), v6, v7, v8, v9] ∧ Kp l H3 H4 ∧ H4 l = some (.lst us) ∧ RowsAt H4 us rs ∧ LkInv m Tb k L0 rs b)
        (fun σ H4 => (match σ[5]? with | some (some (.bl true)) => 1 | _ => 0) + (17 - (match H4 l with | some (.lst us) => us.length | _ => 0)))
        ⟨us0, L0, true, none, none, none, none, rfl, Kp.refl l H3, hl3, (hus0.same e03), ⟨ok.nd, fun r h => .base h, fun r h => h, fun h => (nomatch h)⟩⟩ ?_ (fun σ H Q Q' h ⟨v, hv, c, e, q⟩ => ⟨v, hv, c, e, h _ _ q⟩)
      rintro σ H4 ⟨us, rs, b, v6, v7, v8, v9, rfl, k4, hl4, hus, iv⟩
      refine ⟨_, rfl, b, rfl, ?_⟩
      have rlen : ∀ r ∈ rs, r.length = k := fun r hr => (iv.cl r hr).len ok.len
      have rne : rs ≠ [] := fun e => by
        cases hL : L0 with
        | nil => exact ok.ne hL
        | cons a L =>
          have := iv.sub a (by rw [hL]; exact List.mem_cons_self)
          rw [e] at this
          cases this
      have okr : RowsOk k rs := ⟨hk1, hk4, rne, iv.nd, rlen⟩
      have r16 := okr.small
      have hul := hus.length
      cases b with
      | false =>
        refine iteF ?_
        -- return Relation(relation.size, rows)
        have hpp := (still k4) _ _ hp0
        refine ⟨_, rfl, p, C, dx, _, _, rfl, hpp, R.cl, R.nS, relF_size k tr, _, rfl, fun x dx' hx hdx hne => ?_⟩
        have hd1 : Same H4 (upd H4 dx' (.own x)) := same_new hdx
        have hx1 : upd H4 dx' (.own x) x = none := by rw [upd_ne (Ne.symm hne)]; exact hx
        have e5 : Same H4 (upd (upd H4 dx' (.own x)) x (.ins C dx' [])) := hd1.trans (same_new hx1)
        refine ⟨x, dx', l, us, rs, k, rfl, upd_same, .inl (e5 _ _ hl4), hus.same e5, okr, fun H6 L kp ra perm asc => ⟨rfl, q H6 x L (fun b o hb => ?_) ra asc fun r => ⟨fun hr => iv.cl r (perm.mem_iff.mp hr), fun hr => perm.mem_iff.mpr (hr.mem (iv.fin rfl) iv.sub)⟩⟩⟩
        have hb4 := (still k4) _ _ hb
        exact kp b o (e5 _ _ hb4) (ne_of_none hb4 hx)
      | true =>
        refine iteT ?_
        -- made = {..}
        refine ⟨_, rfl, _, rfl, l, us, m, rfl, SqL.of hl4, by omega, m3, fun H5 pt ws e5 hpt hws => ?_⟩
        have hus5 := hus.same e5
        have hl5 := e5 _ _ hl4
        refine ⟨pt, rfl, ⟨ws, SqL.of hpt⟩, fun D hD => loop_walk (walk_list (K := K) (a := pt) (xs := ws)) (fun j H6 => Same H5 H6 ∧ ∃ ks : List Row, H6 D = some (.dT (ks.map kt)) ∧ ks.Nodup ∧ (∀ r ∈ ks, ∃ qs : List Row, qs.length = m ∧ (∀ q ∈ qs, q ∈ rs) ∧ r = made Tb k qs) ∧
            ∀ t ∈ (tupsV us m).take j, ∀ qs, RowsAt H5 t qs → made Tb k qs ∈ ks) ⟨same_new hD, [], upd_same, List.nodup_nil, fun r h => absurd h (by simp), fun t h => absurd h (by simp)⟩ (fun j H6 _ ⟨e6, _⟩ => SqL.of (e6 _ _ hpt)) ?_ ?_⟩
        · rintro j x H6 H6' hj ⟨e6, ks, hks, knd, kcl, kall⟩ ⟨rfl, hx⟩
          obtain ⟨tv, htv, bt, rfl, hbt⟩ := Paired.at_ hws hx
          obtain ⟨tl, tmem⟩ := tupsV_mem.mp (List.mem_of_getElem? htv)
          obtain ⟨qs, hqs, qmem⟩ := rows_unpick hus5 tv tmem
          have ql : qs.length = m := by rw [← hqs.length, tl]
          have k16 : ks.length ≤ 16 := Nat.le_trans (rows_le knd fun r hr => by obtain ⟨_, _, _, e⟩ := kcl r hr; rw [e, made_length]) (Nat.pow_le_pow_right (n := 2) (by decide) hk4)
          refine ⟨rfl, _, rfl, _, rfl, t, bt, Tb, tv, qs, k, rfl, Same.tup (e5.trans e6) (hTk k4), by rw [ql]; exact hTl, SqT.of (e6 _ _ hbt), hqs.same e6, (fun e => by rw [e] at ql; simp at ql; omega), by omega, fun r hr => rlen r (qmem r hr), hk4, fun H7 u e7 hu7 => ?_⟩
          obtain ⟨bu, rfl, hbu⟩ := hu7
          refine ⟨bu, _, rk (made Tb k qs), rfl, e7 _ _ hks, by rw [rk_vals]; exact hbu, by rw [List.length_map, sizeLine_eq]; omega, same_upd (e6.trans e7) hD, if made Tb k qs ∈ ks then ks else ks ++ [made Tb k qs], by rw [upd_same, kt_put], ?_, ?_, ?_⟩
          · by_cases c : made Tb k qs ∈ ks
            · rw [if_pos c]; exact knd
            · rw [if_neg c]
              refine List.nodup_append.mpr ⟨knd, by simp, fun r hr r' hr' e => ?_⟩
              have e2 : r' = made Tb k qs := by simpa using hr'
              exact c (by rw [← e2, ← e]; exact hr)
          · intro r hr
            by_cases c : made Tb k qs ∈ ks
            · rw [if_pos c] at hr; exact kcl r hr
            · rw [if_neg c] at hr
              rcases List.mem_append.mp hr with h | h
              · exact kcl r h
              · exact ⟨qs, ql, qmem, by simpa using h⟩
          · intro t' ht' qs' hqs'
            have grow : ∀ r, r ∈ ks → r ∈ (if made Tb k qs ∈ ks then ks else ks ++ [made Tb k qs]) := fun r hr => by
              by_cases c : made Tb k qs ∈ ks
              · rw [if_pos c]; exact hr
              · rw [if_neg c]; exact List.mem_append_left _ hr
            rw [take_snoc htv] at ht'
            rcases List.mem_append.mp ht' with h | h
            · exact grow _ (kall t' h qs' hqs')
            · have e2 : t' = tv := by simpa using h
              rw [e2] at hqs'
              rw [hqs'.eq hqs]
              by_cases c : made Tb k qs ∈ ks
              · rw [if_pos c]; exact c
              · rw [if_neg c]; simp
        · rintro H6 ⟨e6, ks, hks, knd, kcl, kall⟩
          rw [Paired.length hws, List.take_length] at kall
          have kfull : ∀ qs : List Row, qs.length = m → (∀ q ∈ qs, q ∈ rs) → made Tb k qs ∈ ks := fun qs h1 h2 => by
            obtain ⟨tv, h3, h4⟩ := rows_pick hus5 qs h2
            exact kall tv (tupsV_mem.mpr ⟨by rw [h3.length]; exact h1, h4⟩) qs h3
          have klen : ∀ r ∈ ks, r.length = k := fun r hr => by obtain ⟨_, _, _, e⟩ := kcl r hr; rw [e, made_length]
          have k16 : ks.length ≤ 16 := Nat.le_trans (rows_le knd klen) (Nat.pow_le_pow_right (n := 2) (by decide) hk4)
          -- more = [row for row in made if row not in rows]
          refine ⟨D, _, hks, True.intro, fun od => ?_⟩
          generalize hHL : upd H6 D (.frz od (.dT (ks.map kt))) = HL
          have hDL : HL D = some (.frz od (.dT (ks.map kt))) := by rw [← hHL]; exact upd_same
          have kL : ∀ b o, H6 b = some o → b ≠ D → HL b = some o := fun b o h hb => by rw [← hHL, upd_ne hb]; exact h
          have hlD : l ≠ D := ne_of_none hl5 hD
          have hus6 := hus5.same e6
          have husL : RowsAt HL us rs := by rw [← hHL]; exact hus6.upd fun xs e => by rw [hks] at e; cases e
          have hlL := kL _ _ (e6 _ _ hl5) hlD
          refine ⟨_, rfl, D, od, rfl, .inr ⟨_, hDL, fun D2 hD2 => loop_walk (walk_keysT (d := D) (o := od) (kvs := ks.map kt)) (fun i H8 => Same HL H8 ∧ ∃ acc, H8 D2 = some (.lst acc) ∧ RowsAt H8 acc ((ks.take i).filter fun r => !decide (r ∈ rs)))
            ⟨same_new hD2, [], upd_same, .nil⟩ (fun i H8 _ ⟨e8, _⟩ => e8 _ _ hDL) ?_ ?_⟩⟩
          · rintro i x H8 H8' hi ⟨e8, acc, hacc, hra⟩ ⟨rfl, kk, vv, qa, hkv, rfl, hqa⟩
            obtain ⟨r, hr, ekv⟩ := map_at hkv
            cases ekv
            rw [rk_vals] at hqa
            have fm : (ks.take (i + 1)).filter (fun r => !decide (r ∈ rs)) = (ks.take i).filter (fun r => !decide (r ∈ rs)) ++ (if (!decide (r ∈ rs)) = true then [r] else []) := filt_more (fun r => !decide (r ∈ rs)) hr
            refine ⟨rfl, _, rfl, _, rfl, notin_rows ⟨qa, rfl, hqa⟩ (e8 _ _ hlL) (husL.same e8) ⟨_, rfl, ?_⟩⟩
            by_cases c : r ∈ rs
            · refine iteNS c ⟨e8, acc, hacc, ?_⟩
              rw [fm, if_neg (by simp [c]), List.append_nil]
              exact hra
            · have kk2 : Kp D2 H8' (upd H8' D2 (.lst (acc ++ [.ref qa]))) := (Kp.refl D2 H8').upd
              have hal : acc.length ≤ 16 := by
                rw [hra.length]
                refine Nat.le_trans (List.length_filter_le _ _) ?_
                rw [List.length_take]
                omega
              refine iteNY c ⟨_, rfl, acc, hacc, by rw [sizeLine_eq]; omega, same_upd e8 hD2, _, upd_same, ?_⟩
              rw [fm, if_pos (by simp [c])]
              exact (kk2.rows hacc hra).append (.cons (kk2.row hacc ⟨qa, rfl, hqa⟩) .nil)
          · rintro H8 ⟨e8, acc, hacc, hra⟩
            rw [List.length_map, List.take_length] at hra
            generalize hM : ks.filter (fun r => !decide (r ∈ rs)) = M at hra
            have hD8 := e8 _ _ hDL
            refine ⟨hD8, ?_⟩
            generalize hH9 : upd H8 D (.dT (ks.map kt)) = H9
            have k9 : ∀ b o, H8 b = some o → b ≠ D → H9 b = some o := fun b o h hb => by rw [← hH9, upd_ne hb]; exact h
            have hl9 := k9 _ _ (e8 _ _ hlL) hlD
            have hD2D : D2 ≠ D := ne_of hacc hD8 (by intro z; cases z)
            have hacc9 := k9 _ _ hacc hD2D
            have hra9 : RowsAt H9 acc M := by rw [← hH9]; exact hra.upd fun xs e => by rw [hD8] at e; cases e
            have hus9 : RowsAt H9 us rs := by rw [← hH9]; exact (husL.same e8).upd fun xs e => by rw [hD8] at e; cases e
            have hal : acc.length ≤ 16 := by
              rw [hra.length, ← hM]
              exact Nat.le_trans (List.length_filter_le _ _) k16
            -- rows.extend(more)
            refine ⟨_, rfl, .inl ⟨rfl, _, SqL.of hl9⟩, _, rfl, l, D2, us, acc, rfl, rfl, hl9, hacc9, by rw [sizeLine_eq]; omega, ?_⟩
            have hD2l : D2 ≠ l := fun e => by rw [e, hlL] at hD2; cases hD2
            have hacc10 : upd H9 l (.lst (us ++ acc)) D2 = some (.lst acc) := by rw [upd_ne hD2l]; exact hacc9
            have Mmem : ∀ r, r ∈ M ↔ r ∈ ks ∧ r ∉ rs := fun r => by rw [← hM, List.mem_filter]; simp
            have iv' : LkInv m Tb k L0 (rs ++ M) (decide (0 < (acc.length : Int))) := by
              refine ⟨List.nodup_append.mpr ⟨iv.nd, by rw [← hM]; exact knd.filter _, fun r hr r' hr' e => ((Mmem r').mp hr').2 (e ▸ hr)⟩, fun r hr => ?_, fun r hr => List.mem_append_left _ (iv.sub r hr), fun hb => ?_⟩
              · rcases List.mem_append.mp hr with h | h
                · exact iv.cl r h
                · obtain ⟨qs, h1, h2, rfl⟩ := kcl r ((Mmem r).mp h).1
                  exact .step h1 fun q hq => iv.cl q (h2 q hq)
              · have h0 : M = [] := by
                  have hn : ¬ (0 < (acc.length : Int)) := fun h => by rw [decide_eq_true h] at hb; cases hb
                  exact List.length_eq_zero_iff.mp (by rw [← hra.length]; omega)
                rw [h0, List.append_nil]
                intro qs h1 h2
                refine Classical.byContradiction fun h => ?_
                have := (Mmem _).mpr ⟨kfull qs h1 h2, h⟩
                rw [h0] at this
                cases this
            refine ⟨_, rfl, D2, acc, rfl, .inl (SqL.of hacc10), _, _, rfl, rfl, ⟨us ++ acc, rs ++ M, _, _, _, _, _, rfl, fun b o hb hbl => ?_, upd_same, ?_, iv'⟩, ?_⟩
            · have b4 := k4 _ _ hb hbl
              have bD : b ≠ D := ne_of_none (e5 _ _ b4) hD
              rw [upd_ne hbl]
              exact k9 _ _ (e8 _ _ (kL _ _ (e6 _ _ (e5 _ _ b4)) bD)) bD
            · exact (hus9.append hra9).upd fun xs e => by rw [hl9] at e; cases e
            · rw [upd_same, hl4]
              show (match (some (some (V.bl (decide (0 < (acc.length : Int))))) : Option (Option V)) with | some (some (.bl true)) => 1 | _ => 0) + (17 - (us ++ acc).length) < 1 + (17 - us.length)
              by_cases c : 0 < (acc.length : Int)
              · rw [decide_eq_true c, List.length_append]
                show 1 + (17 - (us.length + acc.length)) < 1 + (17 - us.length)
                omega
              · rw [decide_eq_false c, List.length_append]
                show 0 + (17 - (us.length + acc.length)) < 1 + (17 - us.length)
                omega
    · exact ⟨_, rfl, _, rfl, .inr ⟨bad, r⟩⟩
end
end KW
end

section
set_option Elab.async false
set_option linter.all false
set_option maxRecDepth 100000
namespace KW
open PySem L2 KM
open PySem.Spec hiding Row
open PyProof.Rows
/-! ### repr of a size and its rows -/
def relD (k : Nat) (L : List Row) : PyData := .tuple [.int k, .tuple (L.map rowD)]
theorem bds_show : ∀ r : Row, PyData.showableAll (r.map bd) = true
  | [] => by simp only [List.map_nil, PyData.showableAll]
  | b :: r => by
    have h := bds_show r
    have h1 : (bi b).natAbs.log2 < 1920 := by cases b <;> decide +kernel
    simp only [List.map_cons, PyData.showableAll, bd, PyData.showable, h, decide_eq_true h1, Bool.and_self]
theorem rowDs_show : ∀ L : List Row, PyData.showableAll (L.map rowD) = true
  | [] => by simp only [List.map_nil, PyData.showableAll]
  | r :: L => by simp only [List.map_cons, PyData.showableAll, rowD, PyData.showable, bds_show r, rowDs_show L, Bool.and_self]
theorem bi_short (b : Bool) : decide ((PyData.shown (.int (bi b))).length ≤ 13) = true := by cases b <;> decide +kernel
theorem bds_short : ∀ r : Row, PyData.intsShortAll 13 (r.map bd) = true
  | [] => by simp only [List.map_nil, PyData.intsShortAll]
  | b :: r => by simp only [List.map_cons, PyData.intsShortAll, bd, PyData.intsShort, bi_short b, bds_short r, Bool.and_self]
theorem rowDs_short : ∀ L : List Row, PyData.intsShortAll 13 (L.map rowD) = true
  | [] => by simp only [List.map_nil, PyData.intsShortAll]
  | r :: L => by simp only [List.map_cons, PyData.intsShortAll, rowD, PyData.intsShort, bds_short r, rowDs_short L, Bool.and_self]
theorem bds_weight : ∀ r : Row, PyData.weightAll (r.map bd) ≤ 2 * r.length
  | [] => by simp [PyData.weightAll]
  | b :: r => by
    have h := bds_weight r
    have h1 : PyData.weight (.int (bi b)) ≤ 1 := by cases b <;> decide +kernel
    simp only [List.map_cons, PyData.weightAll, bd, List.length_cons]
    omega
theorem rowDs_weight : ∀ L : List Row, (∀ r ∈ L, r.length ≤ 4) → PyData.weightAll (L.map rowD) ≤ 9 * L.length
  | [], _ => by simp [PyData.weightAll]
  | r :: L, h => by
    have h1 := rowDs_weight L fun x hx => h x (List.mem_cons_of_mem _ hx)
    have h2 := bds_weight r
    have h3 := h r List.mem_cons_self
    simp only [List.map_cons, PyData.weightAll, rowD, PyData.weight, List.length_cons]
    omega
structure Shows (d : PyData) : Prop where
  sh : d.showable = true
  nd : d.hasDict = false
  dp : d.depth ≤ 8
  sz : d.shown.length ≤ sizeLine
theorem relD_shows {k : Nat} {L : List Row} (hk : k ≤ 4) (hL : L.length ≤ 16) (hr : ∀ r ∈ L, r.length ≤ 4) : Shows (relD k L) := by
  have lay : PyData.canLay0 (relD k L) = true := by
    show PyData.canLay0 (.tuple [.int k, .tuple (L.map rowD)]) = true
    simp [PyData.canLay0, PyData.canLayAll0, rowDs_lay L]
  have dep : (relD k L).depth ≤ 4 := by
    have h := rowDs_depth L
    simp only [relD, PyData.depth, PyData.depthAll]
    omega
  have wk : PyData.weight (.int (k : Int)) ≤ 4 ∧ decide ((PyData.shown (.int (k : Int))).length ≤ 13) = true ∧ ((k : Int)).natAbs.log2 < 1920 := by
    match k, hk with
    | 0, _ => exact ⟨by decide +kernel, by decide +kernel, by decide +kernel⟩
    | 1, _ => exact ⟨by decide +kernel, by decide +kernel, by decide +kernel⟩
    | 2, _ => exact ⟨by decide +kernel, by decide +kernel, by decide +kernel⟩
    | 3, _ => exact ⟨by decide +kernel, by decide +kernel, by decide +kernel⟩
    | 4, _ => exact ⟨by decide +kernel, by decide +kernel, by decide +kernel⟩
  have wt : PyData.weight (relD k L) ≤ 2 ^ 20 := by
    have h := rowDs_weight L hr
    have h1 := wk.1
    simp only [relD, PyData.weight, PyData.weightAll] at h1 ⊢
    omega
  have l0 : PyData.layable0 (relD k L) = true := by
    show (PyData.canLay0 (relD k L) && decide (PyData.depth (relD k L) ≤ 64) && decide (PyData.weight (relD k L) ≤ 2 ^ 20)) = true
    rw [lay, decide_eq_true wt, decide_eq_true (by omega : (relD k L).depth ≤ 64)]
    rfl
  have hi : PyData.intsShort 13 (relD k L) = true := by
    simp only [relD, PyData.intsShort, PyData.intsShortAll, rowDs_short L, wk.2.1, Bool.and_self]
  refine ⟨?_, PyData.hasDict_of_canLay _ lay, by omega, Nat.le_trans (shown_le13 l0 hi) (by decide)⟩
  simp only [relD, PyData.showable, PyData.showableAll, rowDs_show L, decide_eq_true wk.2.2, Bool.and_self]
section
variable {X : Cx}
def rRepD (K : PySem.W.Frag) : List V → Hp → VK → Prop := fun xs H Q => ∃ (a : Addr) (d : PyData), xs = [.ref a] ∧ Dp K H (.ref a) d ∧ Shows d ∧ Q (.str d.shown) H
/-- repr(x), x nested tuples: where no repr is under way -/
theorem call_reprD (hg : X.A.guards = some []) (hu : X.A.units + 65 < cLine) : CallR X (.builtin "repr") (rRepD X.K) := by
  intro pins s σ H xs us Q I r h
  obtain ⟨a, d, rfl, hd, sh, q⟩ := h
  obtain rfl := Vals.ref1 r
  obtain ⟨as, rd⟩ := Dp.reads I d (.ref a) (.ref a) hd rfl
  have hdp := sh.dp
  exact PySem.repr_of_reads' rd sh.sh (fun z => by rw [sh.nd] at z; cases z) hg (by omega) (fun b o e => e) (fun h' u tk hk => ⟨.str _, H, I.kept (t' := tk) hk, ⟨_, rfl⟩, q⟩) sh.sz
/-- repr of a text -/
theorem call_reprS : CallR X (.builtin "repr") (fun xs H Q => ∃ x : Str, xs = [.str x] ∧ (reprText x).length ≤ sizeLine ∧ Q (.str (reprText x)) H) := by
  intro pins s σ H xs us Q I r h
  obtain ⟨x, rfl, hz, q⟩ := h
  obtain ⟨u, rfl, t, rfl⟩ := vals1 r
  exact PySem.P.repr_of_str (hsz := hz) ⟨.str _, H, I.tok _, ⟨_, rfl⟩, q⟩
end
/-! ### isinstance of a caught error that has a dict of its own -/
section
variable {X : Cx} {a D : Addr} {oe : Obj} {cls : Value} {d : Option Addr} {pn : List (Addr × Obj)}
def HasXd (cls : Value) (d : Option Addr) (D : Addr) (H : Hp) : Prop := cls = .ref D ∧ ∃ dd fs, d = some dd ∧ H dd = some (.xd fs)
theorem inst_of {pins : List (Addr × Obj)} {σ : L2.St} {H : Hp} {s : Shared} (I : L2.Inv (X.suite a ((a, oe) :: pn)) pins σ H s) (hz : Zc cls d oe) (hf : ∃ vs, oe.data = .fields vs) (h : HasXd cls d D H) : ∃ od, PySem.W.InstAt s.heap a oe D (some od) := by
  obtain ⟨rfl, dd, fs, rfl, hd⟩ := h
  obtain ⟨here, _⟩ := I.pin (a, oe) (List.mem_append_left _ List.mem_cons_self)
  obtain ⟨mA, hns, _⟩ := (show ObjOk X.prog X.w H s.heap dd (.xd fs) from I.hok dd _ hd)
  obtain ⟨od, ho, _⟩ := lookIn_ns hns
  obtain ⟨vs, hv⟩ := hf
  exact ⟨od, here, hz.1, by unfold PySem.W.notCls; rw [hv] <;> rfl, by rw [hz.2]; exact ho⟩
theorem kx_of (C : ExcC X.K D) {od : Option Obj} : PySem.W.KitX X.K (.ref a) (.ref D) (fun h => PySem.W.InstAt h a oe D od) :=
  PySem.W.kitx_exc (by obtain ⟨cd, hc, _⟩ := PySem.W.any_some C.hd; rw [hc]; rfl) C.hg C.hk C.hs C.ha C.hn C.ht C.hm
def rIsX (K : PySem.W.Frag) (D a : Addr) (cls : Value) (d : Option Addr) : List V → Hp → VK → Prop := fun xs H Q => ∃ (c : V) (u : Value) (b : Bool), xs = [.ref a, c] ∧ ClsV c u ∧ HasXd cls d D H ∧ PySem.W.kitOne K (.ref D) u = some b ∧ Q (.bl b) H
theorem call_isX (C : ExcC X.K D) (hz : Zc cls d oe) (hf : ∃ vs, oe.data = .fields vs) : CallR (X.suite a ((a, oe) :: pn)) (.builtin "isinstance") (rIsX X.K D a cls d) := by
  intro pins s σ H xs us Q I r h
  obtain ⟨c, u, b, rfl, k, hx, ans, q⟩ := h
  obtain ⟨e, c', rfl, r1, r2⟩ := vals2 r
  cases r1
  have e2 := k.eq r2
  subst e2
  obtain ⟨od, J⟩ := inst_of I hz hf hx
  exact PySem.W.kia_one (kx_of C) I.kIn J ans (fun z => nomatch z) fun tk => ⟨.bl b, H, I.tok tk, rfl, q⟩
def rIsXT (K : PySem.W.Frag) (D a : Addr) (cls : Value) (d : Option Addr) : List V → Hp → VK → Prop := fun xs H Q => ∃ (tp : Addr) (cs : List V) (us : List Value) (b : Bool), xs = [.ref a, .ref tp] ∧ H tp = some (.tup cs) ∧ Paired ClsV cs us ∧ HasXd cls d D H ∧
  PySem.W.kitAny K (.ref D) us = some b ∧ Q (.bl b) H
theorem call_isXT (C : ExcC X.K D) (hz : Zc cls d oe) (hf : ∃ vs, oe.data = .fields vs) : CallR (X.suite a ((a, oe) :: pn)) (.builtin "isinstance") (rIsXT X.K D a cls d) := by
  intro pins s σ H xs us Q I r h
  obtain ⟨tp, cs, ws, b, rfl, hT, k, hx, ans, q⟩ := h
  obtain ⟨e, c', rfl, r1, r2⟩ := vals2 r
  cases r1
  cases (show c' = Value.ref tp from r2)
  obtain ⟨od, J⟩ := inst_of I hz hf hx
  obtain ⟨_, its, rv, ob, h1, h2, n, h3⟩ := (show ObjOk X.prog X.w H s.heap tp (.tup cs) from I.hok tp _ hT)
  have e3 := ClsV.all k rv
  subst e3
  obtain ⟨oc, od', dt, sl⟩ := ob
  simp only at h2 h3
  subst h2 h3
  exact PySem.W.kia_tup (kx_of C) I.kIn J h1 ans (fun z => nomatch z) fun tk => ⟨.bl b, H, I.tok tk, rfl, q⟩
end
end KW
end

section
set_option Elab.async false
set_option linter.all false
set_option maxRecDepth 100000
namespace KW
open PySem L2 KM
/-! ### _law_refusal -/
structure RefTxt (K : PySem.W.Frag) (mg : Str → Option Value) (CU CC CN CR : Addr) : Prop where
  gC : mg "CellError" = some (.ref CC)
  gN : mg "InvalidNumber" = some (.ref CN)
  gR : mg "InvalidRelation" = some (.ref CR)
  gU : mg "Undefined" = some (.ref CU)
  gV : mg "ValueError" = none
  te : PySem.W.exmOne K (.ref CU) (.ref CC) = some true
  ex : ExcC K CU
  xf : XfC K CU
  noW : PySem.W.findIn K (.ref CU) "what" = some none
  iT : PySem.W.kitAny K (.ref CU) [.ref CN, .ref CR] = some false
  iV : PySem.W.kitOne K (.ref CU) (.type "ValueError") = some true
  iU : PySem.W.kitOne K (.ref CU) (.ref CU) = some true
def spRef (K : PySem.W.Frag) (dT CU C : Addr) : Sp := fun vs H Q _ => ∃ (p : Addr) (v : V) (k : Nat) (L0 : List Row), vs = [.ref p, v] ∧ RelAt C H p k L0 ∧ RowsOk k L0 ∧ Bad K dT H v ∧ ∀ H' : Hp, Same H H' → Q (.str (PySem.reprText "word")) H'
abbrev nRef : List Str := ["_law_relation", "_law_word", "e"]
theorem scRef : FnScope nRef ["_law_relation", "_law_word"] (defScope sRef) := ⟨rfl, rfl, rfl, by decide +kernel, rfl, by decide +kernel, by decide +kernel⟩
section
variable {K : PySem.W.Frag} {mg : Str → Option Value} {base : Heap} {P : Program} {w : World}
theorem ok_ref {f fL dT CU C CC CN CR : Addr} {fd fdL : FuncData} (F : Fun K "_law_refusal" "_law_refusal" sRef f fd) (T : Txt K mg) (R : RefTxt K mg CU CC CN CR) (CL : CalX P w K mg base 6 "least_kept" fL fdL ["relation", "word"] (spLeast K dT CU C)) :
    FnOk P w K mg base CX0 7 f fd ["_law_relation", "_law_word"] (spRef K dT CU C) := by
  refine F.ok scRef (fun vs H Q E h => ?_) (fun cdv A outer s H vs Q E hr h => ?_)
  · obtain ⟨p, v, _, _, rfl, _⟩ := h
    rfl
  · obtain ⟨p, v, k, L0, rfl, hp, ok, bad, q⟩ := h
    refine ⟨_, pss_cons (ps_try_as (i := 2) rfl rfl scRef.nd rfl rfl ⟨rfl, by decide, .inl R.gC⟩ takes0 (fun W pn xe tk _ => pss_one (ps_expr (pe_callS CL.ok hr rfl CL.mg CL.kp CL.b (fun σ => passAt tk σ) (pa_cons (pv 0) (pa_cons (pv 1) pa_nil))))) (fun a oe cls d pn hz hf => pss_cons (ps_if (PW.pt (pw_or (pt_val (pe_callB (call_isXT R.ex hz hf) (by rfl) T.isinst (by decide +kernel) (pa_cons (pv 2) (pa_cons (pe_tup (pa_cons (pe_glob (v := .ref CN) rfl R.gN rfl) (pa_cons (pe_glob (v := .ref CR) rfl R.gR rfl) pa_nil))) pa_nil)))) (pw_or1 (pt_not (pt_val (pe_callB (call_isX R.ex hz hf) (by rfl) T.isinst (by decide +kernel) (pa_cons (pv 2) (pa_cons (pe_bltn (v := .ty "ValueError") (by rfl) R.gV (by decide +kernel) rfl) pa_nil)))))))) (pss_never) (pss_nil))
      (pss_one (ps_if (pt_val (pe_callB (call_isX R.ex hz hf) (by rfl) T.isinst (by decide +kernel) (pa_cons (pv 2) (pa_cons (pe_glob (v := .ref CU) rfl R.gU rfl) pa_nil)))) (pss_one (ps_ret (pe_callB call_reprS (by rfl) T.repr (by decide +kernel) (pa_cons (pe_xf R.xf R.noW hz hf (pv 2)) pa_nil)))) (pss_nil)))))
      (pss_one (ps_ret (pe_str))), ?_⟩
    refine ⟨_, rfl, _, rfl, p, v, k, L0, rfl, hp, ok, .inr ⟨bad, fun H1 d e1 hd => ⟨true, R.te, fun _ a ha => ?_, fun z => (nomatch z)⟩⟩⟩
    refine ⟨_, rfl, by show 2 ≤ sizeLine; decide, fun tp htp => ?_⟩
    have e2 : Same H1 (upd H1 tp (.tup [.ref CN, .ref CR])) := same_new htp
    have hx : HasXd (.ref CU) (some d) CU (upd H1 tp (.tup [.ref CN, .ref CR])) := ⟨rfl, d, whatF, rfl, e2 _ _ hd⟩
    refine ⟨tp, _, _, false, rfl, upd_same, .cons (.own _) (.cons (.own _) .nil), hx, R.iT, false, rfl, iteF ?_⟩
    refine ⟨_, rfl, _, _, true, rfl, .ty _, hx, R.iV, true, rfl, iteF ?_⟩
    refine ⟨_, rfl, _, _, true, rfl, .own _, hx, R.iU, true, rfl, iteT ?_⟩
    exact ⟨_, rfl, rfl, rfl, d, whatF, .str "word", rfl, e2 _ _ hd, lk_1, _, rfl, by decide +kernel, q _ (e1.trans e2)⟩
end
end KW
end

section
set_option Elab.async false
set_option linter.all false
set_option maxRecDepth 100000
set_option maxHeartbeats 2500000
namespace KW
open PySem L2 KM
open PySem.Spec hiding Row
open PyProof.Rows
/-! ### the law's own call: at the caller, where no repr is under way -/
section
variable {P : Program} {w : World} {K : PySem.W.Frag} {mg : Str → Option Value}
/-- a def's body at the caller gives its call -/
theorem run_at {f : Addr} {x : Str} {st : Stmt} {fd : FuncData} {N ps : List Str} {base : Heap} (F : Fun K x x st f fd) (S : FnScope N ps (defScope st)) {s : Shared} {H : Hp} {args : Args} {us : List Value} {vs : List V} {Q : VK}
    (hr : Room 8 callerA) (e0 : Env0 P w K mg base callerA [] s H) (hb : BindsTo s fd args (ps.zip us)) (rv : Vals vs us) (hl : vs.length = ps.length)
    (body : ∀ cdv, Room 7 (callerA.deeper (envOfC x (defScope st) s.heap.objs.size f cdv)) → ∃ t, PSs (cxOf CX0 P w K mg base N x (defScope st) f cdv callerA [] s H E0).nox (defBody st) t ∧ t { nx := fun _ H' => Q .non H', rt := Q } (L2.start N vs) H) :
    codeAny (model P w) callerA (.call (.ref f) args) (CR CX0 [] P w H s Q E0) s := by
  obtain ⟨_, _, kV, doc, pm, an, cdv, ct, _, rfl, lk, hcd⟩ := F.ex
  have kin : K.In s.heap := e0.mod.kin.keeps fun b o e => (e0.bs b o e).1
  have quiet : s.heap.NoLimit := e0.mod.nolimit.keeps fun b o e => (e0.bs b o e).1
  refine codeAny_call_function hr.depth (kin _ _ lk) rfl S.co S.gen rfl (PySem.W.codeRec_of kin hcd) (hb _ _ _ _ (wpAny_newFunctionEnv_cells S.kind (fun y hy => ?_) fun env he s1 lay => ?_))
  · rcases S.par y.1 (List.of_mem_zip (show (y.1, y.2) ∈ ps.zip us from hy)).1 with z | z
    · exact .inl z
    · exact .inr ⟨z, PySem.W.cellsFrom_some _ _ _ (.inl z)⟩
  subst he
  obtain ⟨t, ht, q⟩ := body cdv (hr.deeper _)
  have I := inv_start (CX := CX0) (E := E0) S hr.hd e0 hl rv lay
  refine ⟨quiet.keeps lay.toInCall.keep, codeAny_func (wpAny_mono (ht.nox.run [] s1 (L2.start N vs) H _ I q) (fun fl s' z => ?_) fun _ _ z => z)⟩
  cases fl with
  | ret u =>
    obtain ⟨v, σ', H', J, r, q'⟩ := z
    exact ⟨v, H', J.os, J.bare, J.base, J.hok, r, q'⟩
  | next =>
    obtain ⟨σ', H', J, q'⟩ := z
    exact ⟨.non, H', J.os, J.bare, J.base, J.hok, rfl, q'⟩
  | brk => exact (show False from z.choose_spec.choose_spec.2).elim
  | cont => exact (show False from z.choose_spec.choose_spec.2).elim
/-- the heap in which the script alone is told, or nothing -/
def scriptH (a : Addr) (o : Obj) (ns : List Int) (free : Bool) : Hp := fun b => if b = a ∧ free = true then some (.frz o (.lst (ns.map V.int))) else none
theorem scriptH_some {a b : Addr} {o : Obj} {ns : List Int} {free : Bool} {u : HO} (h : scriptH a o ns free b = some u) : b = a ∧ free = true ∧ u = .frz o (.lst (ns.map V.int)) := by
  unfold scriptH at h
  split at h
  · rename_i c
    exact ⟨c.1, c.2, (Option.some.inj h).symm⟩
  · cases h
theorem call_end {mb : Str → Option Value} {fa a : Addr} {s1 : Shared} {vs : List Value} {ns : List Int} (kin : K.In s1.heap) (gl : s1.heap.Ns mainGlobals mg) (bl : s1.heap.Ns builtinsNs mb) (boot : ∀ x : Str, x ≠ "__name__" → mb x = bootBuiltins x) (quiet : s1.heap.NoLimit)
    (gens : s1.gens = #[]) (ha : s1.heap.get? a = some { cls := .type "list", data := .seq vs.toArray }) (hi : IntsAre vs ns) (hl : ns.length ≤ sizeLine)
    (run : ∀ (base : Heap) (H : Hp), SqL K H a (ns.map V.int) → Env0 P w K mg base callerA [] s1 H → codeAny (model P w) callerA (.call (.ref fa) ⟨[.ref a], []⟩) (CR CX0 [] P w H s1 (fun v _ => v = .bl true) E0) s1) :
    codeAny (model P w) callerA (.call (.ref fa) ⟨[.ref a], []⟩) (fun r s' => r = .ok (.ret (.bool true)) ∧ OldK s1.heap s'.heap ∧ s'.os = s1.os ∧ AllBare s'.gens) s1 := by
  have lenV := hi.length
  have rv : Vals (ns.map V.int) vs := vals_ints hi
  generalize hfree : (K.lookup a).isNone = free
  generalize hH : scriptH a { cls := .type "list", data := .seq vs.toArray } ns free = H
  have tell : ∀ {b : Addr} {u : HO}, H b = some u → b = a ∧ free = true ∧ u = .frz { cls := .type "list", data := .seq vs.toArray } (.lst (ns.map V.int)) := fun h => scriptH_some (by rw [hH]; exact h)
  have hok : HOk P w H s1.heap := fun b u e => by
    obtain ⟨rfl, _, rfl⟩ := tell e
    exact ⟨ha, (List.length_map (as := ns) V.int).symm ▸ hl, vs, 0, rv, ha⟩
  have none_of : ∀ {b : Addr}, (∀ h : b = a, free = false) → H b = none := fun {b} h => by
    cases e : H b with
    | none => rfl
    | some u =>
      obtain ⟨e1, e2, _⟩ := tell e
      rw [h e1] at e2
      cases e2
  have sq : SqL K H a (ns.map V.int) := by
    cases hk : K.lookup a with
    | some o =>
      have e := kin a o hk
      rw [ha] at e
      cases e
      exact .inr ⟨_, vs.toArray, _, hk, rfl, rfl, rfl, by rw [List.size_toArray, lenV]; exact hl, by simpa using rv⟩
    | none =>
      refine .inl (.inr ⟨{ cls := .type "list", data := .seq vs.toArray }, ?_⟩)
      rw [← hH]
      exact if_pos ⟨rfl, by rw [← hfree, hk]; rfl⟩
  -- the ground: all but the script
  have low : ∀ {b : Addr} {o : Obj}, s1.heap.get? b = some o → H b = none → (hidT s1.heap H).get? b = some o := fun e n => hidT_get e n
  have ns' : ∀ {b : Addr} {m : Str → Option Value}, s1.heap.Ns b m → (hidT s1.heap H).Ns b m := fun {b m} ⟨o, es, ep, e, d, r⟩ => ⟨o, es, ep, low e (none_of fun z => by
    rw [z, ha] at e
    cases e
    cases (show Data.seq vs.toArray _ = Data.dict es ep from d)), d, r⟩
  have kin' : K.In (hidT s1.heap H) := fun b o e => low (kin b o e) (none_of fun z => by rw [← hfree, ← z, e]; rfl)
  have e0 : Env0 P w K mg (hidT s1.heap H) callerA [] s1 H := ⟨rfl, ⟨kin', ns' gl, ⟨mb, ns' bl, boot⟩, let ⟨mc, h1, h2⟩ := quiet; ⟨mc, ns' h1, h2⟩⟩, fun b o e => of_hidT e, Nat.le_of_eq (hidT_size _ _), trivial,
    fun b hb => (nomatch (show b ∈ ([] : List Addr) from hb)), hok, .of_eq gens⟩
  refine codeAny_mono (run _ H sq e0) fun r s' h => ?_
  match r, h with
  | .ok (.ret u), h =>
    obtain ⟨v, Hz, os, bare, un, okz, rz, q⟩ := h
    subst q
    obtain rfl : u = .bool true := rz
    refine ⟨rfl, OldK.of_keep (fun b o e => ?_), os, bare⟩
    cases q : H b with
    | none => exact un.keep b o e q (fun z => (nomatch (show b ∈ ([] : List Addr) from z))) (by simp)
    | some u =>
      obtain ⟨rfl, _, rfl⟩ := tell q
      obtain ⟨e2, _⟩ := okz b _ (un.frzs b _ _ q)
      rw [ha] at e
      cases e
      exact e2
end
end KW
end

section
set_option Elab.async false
set_option linter.all false
set_option maxRecDepth 100000
set_option maxHeartbeats 8000000
namespace KW
open PySem L2 KM
/-! ### law -/
structure RelIs (K : PySem.W.Frag) (C : Addr) : Prop where
  clsAt : PySem.W.findIn K (.ref C) "__class__" = some (some (.builtin "object.__class__"))
  getAt : PySem.W.specialIn K (.builtin "object.__class__") "__get__" = some (some (.builtin "getset_descriptor.__get__"))
  takes : PySem.W.takesIn K (.builtin "object.__class__") = some true
  objIn : PySem.W.mroIn K C (.type "object") = some true
  is : PySem.W.kitOne K (.ref C) (.ref C) = some true
abbrev wrongL : List Str := ["And", "", "odd", "majority ", "plain"]
def NotWords (K : PySem.W.Frag) (dT : Addr) : Prop := ∀ z ∈ wrongL, PySem.W.nsIn K dT z = some none
abbrev nLaw : List Str := ["_law_script", "_law_hand", "_law_words", "_law_t", "_law_size", "_law_rows", "_law_relation", "_law_word", "_law_closed_here", "_law_row", "_law_due", "_law_actual", "_law_again", "_law_wrong"]
theorem scLaw : FnScope nLaw ["_law_script"] (defScope sLaw) := ⟨rfl, rfl, rfl, by decide +kernel, rfl, by decide +kernel, by decide +kernel⟩
section
variable {K : PySem.W.Frag} {mg : Str → Option Value} {base : Heap} {P : Program} {w : World}
theorem dp_rel {H : Hp} {a t : Addr} {us : List V} {k : Nat} {L : List Row} (ha : H a = some (.tup [.int k, .ref t])) (ht : H t = some (.tup us)) (hL : RowsAt H us L) : Dp K H (.ref a) (relD k L) :=
  .tup (SqT.of ha) (.cons (.int k) (.cons (.tup (SqT.of ht) (Dp.rows hL)) .nil))
/-- repr((x.size, x.rows)) -/
theorem rel_text {C fI p : Addr} {k i : Nat} {L : List Row} {σ : L2.St} {H : Hp} {Q : VK} (R : RelTxt K mg C fI) (hv : σ[i]? = some (some (.ref p))) (hR : RelAt C H p k L) (sh : Shows (relD k L)) (q : ∀ H' : Hp, Same H H' → Q (.str (relD k L).shown) H') :
    tCB (rRepD K) (tCons (tTup (tCons (tFld K (tVar i) "size") (tCons (tFld K (tVar i) "rows") tNil))) tNil) σ H Q := by
  obtain ⟨dx, t, us, h1, h2, h3⟩ := hR
  refine ⟨_, hv, p, C, dx, _, _, rfl, h1, R.cl, R.nS, relF_size k t, _, hv, p, C, dx, _, _, rfl, h1, R.cl, R.nR, relF_rows k t, by show 2 ≤ sizeLine; decide, fun a ha => ?_⟩
  have e : Same H (upd H a (.tup [.int k, .ref t])) := same_new ha
  exact ⟨a, relD k L, rfl, dp_rel upd_same (e _ _ h2) (h3.same e), sh, q _ e⟩
/-- repr((size, rows)) -/
theorem pair_text {t : Addr} {us : List V} {k i j : Nat} {L : List Row} {σ : L2.St} {H : Hp} {Q : VK} (hi : σ[i]? = some (some (.int k))) (hj : σ[j]? = some (some (.ref t))) (ht : H t = some (.tup us)) (hL : RowsAt H us L) (sh : Shows (relD k L)) (q : ∀ H' : Hp, Same H H' → Q (.str (relD k L).shown) H') :
    tCB (rRepD K) (tCons (tTup (tCons (tVar i) (tCons (tVar j) tNil))) tNil) σ H Q := by
  refine ⟨_, hi, _, hj, by show 2 ≤ sizeLine; decide, fun a ha => ?_⟩
  have e : Same H (upd H a (.tup [.int k, .ref t])) := same_new ha
  exact ⟨a, relD k L, rfl, dp_rel upd_same (e _ _ ht) (hL.same e), sh, q _ e⟩
theorem RelAt.kp {C a p : Addr} {H H' : Hp} {k : Nat} {L : List Row} {xs : List V} (h : RelAt C H p k L) (kk : Kp a H H') (ha : H a = some (.lst xs)) : RelAt C H' p k L := by
  obtain ⟨dx, t, us, h1, h2, h3⟩ := h
  exact ⟨dx, t, us, kk _ _ h1 (ne_of h1 ha (by intro z; cases z)), kk _ _ h2 (ne_of h2 ha (by intro z; cases z)), kk.rows ha h3⟩
theorem Drawn.ok {k : Nat} {rs : List Row} (h : Drawn k rs) : RowsOk k rs := ⟨h.k1, h.k4, h.ne, asc_nodup h.asc, h.len⟩
theorem RowsOk.shows {k : Nat} {rs : List Row} (h : RowsOk k rs) : Shows (relD k rs) := relD_shows h.k4 h.small fun r hr => by rw [h.len r hr]; exact h.k4
theorem word_at {i : Nat} {x : V} (h : (wordsL.map V.str)[i]? = some x) : ∃ z m T, x = .str z ∧ Word z m T := by
  match i, h with
  | 0, h => exact ⟨_, _, _, (Option.some.inj h).symm, ⟨0, rfl, rfl, rfl⟩⟩
  | 1, h => exact ⟨_, _, _, (Option.some.inj h).symm, ⟨1, rfl, rfl, rfl⟩⟩
  | 2, h => exact ⟨_, _, _, (Option.some.inj h).symm, ⟨2, rfl, rfl, rfl⟩⟩
  | 3, h => exact ⟨_, _, _, (Option.some.inj h).symm, ⟨3, rfl, rfl, rfl⟩⟩
  | 4, h => exact ⟨_, _, _, (Option.some.inj h).symm, ⟨4, rfl, rfl, rfl⟩⟩
  | 5, h => exact ⟨_, _, _, (Option.some.inj h).symm, ⟨5, rfl, rfl, rfl⟩⟩
  | n + 6, h => simp at h
theorem wrong_at {dT t l : Addr} {H : Hp} {j : Int} (NW : NotWords K dT) (ht : H t = some (.tup [.str "and"])) (hl : H l = some (.lst [.str "and"])) (h0 : 0 ≤ j) (h1 : j < 10) :
    ∃ v, atI [.str "And", .str "", .str "odd", .non, .int 0, .bl true, .ref t, .ref l, .str "majority ", .str "plain"] j = some v ∧ Bad K dT H v := by
  obtain ⟨n, rfl⟩ : ∃ n : Nat, j = (n : Int) := ⟨j.toNat, by omega⟩
  match n, h1 with
  | 0, _ => exact ⟨_, rfl, .inr ⟨_, rfl, NW _ (by simp)⟩⟩
  | 1, _ => exact ⟨_, rfl, .inr ⟨_, rfl, NW _ (by simp)⟩⟩
  | 2, _ => exact ⟨_, rfl, .inr ⟨_, rfl, NW _ (by simp)⟩⟩
  | 3, _ => exact ⟨_, rfl, .inl ⟨_, .base .non, kit_ty (by decide +kernel)⟩⟩
  | 4, _ => exact ⟨_, rfl, .inl ⟨_, .base (.int _), kit_ty (by decide +kernel)⟩⟩
  | 5, _ => exact ⟨_, rfl, .inl ⟨_, .base (.bl _), kit_ty (by decide +kernel)⟩⟩
  | 6, _ => exact ⟨_, rfl, .inl ⟨_, .base (.tup ht), kit_ty (by decide +kernel)⟩⟩
  | 7, _ => exact ⟨_, rfl, .inl ⟨_, .base (.lst hl), kit_ty (by decide +kernel)⟩⟩
  | 8, _ => exact ⟨_, rfl, .inr ⟨_, rfl, NW _ (by simp)⟩⟩
  | 9, _ => exact ⟨_, rfl, .inr ⟨_, rfl, NW _ (by simp)⟩⟩
  | n + 10, h => omega
theorem law_body {f fD fAny fTake fAll fTab fClo fL fRef fI dT CU C a0 : Addr} {fdD fdAny fdTake fdAll fdTab fdClo fdL fdRef fdI : FuncData} {cdv : Value} {s : Shared} {H : Hp} {ns : List Int} (T : Txt K mg)
    (CD : Cal P w K mg base 1 "_law_draws" fD fdD ["_law_script", "_law_many"] (spDraws K)) (CAny : Cal P w K mg base 2 "_law_any" fAny fdAny ["_law_hand"] spAny) (CTake : Cal P w K mg base 1 "_law_take" fTake fdTake ["_law_hand", "_law_many"] spTake)
    (CAll : Cal P w K mg base 1 "_law_all_rows" fAll fdAll ["_law_many"] spAll) (CTab : Cal P w K mg base 1 "_law_table" fTab fdTab ["_law_word"] (spLTab K)) (CClo : Cal P w K mg base 2 "_law_closed" fClo fdClo ["_law_rows", "_law_table_here"] (spClo K))
    (CL : CalX P w K mg base 6 "least_kept" fL fdL ["relation", "word"] (spLeast K dT CU C)) (CRef : Cal P w K mg base 7 "_law_refusal" fRef fdRef ["_law_relation", "_law_word"] (spRef K dT CU C))
    (R : RelTxt K mg C fI) (RI : RelIs K C) (GI : FnOk P w K mg base CX0 4 fI fdI ["self", "size", "rows"] (spRel C)) (bI : Binds K fdI ["self", "size", "rows"] []) (NW : NotWords K dT)
    (hr : Room 7 (callerA.deeper (PyProof.Rows.envOfC "law" (defScope sLaw) s.heap.objs.size f cdv))) (hS : SqL K H a0 (ns.map V.int)) (hn : ns.length ≤ 63) :
    ∃ t, PSs (cxOf CX0 P w K mg base nLaw "law" (defScope sLaw) f cdv callerA [] s H E0).nox (defBody sLaw) t ∧ t { nx := fun _ H' => V.non = .bl true, rt := fun v _ => v = .bl true } (L2.start nLaw [.ref a0]) H := by
  have hu := hu65 hr
  refine ⟨_, pss_cons (ps_set (i := 1) scLaw.nd rfl (.inl rfl) (pe_lst (pa_cons (pe_call CD.ok (hr.mono (by decide)) rfl CD.mg CD.kp CD.b .nil pass0 (pa_cons (pv 0) (pa_cons (pe_int) pa_nil))) (pa_cons (pe_int) pa_nil))))
      (pss_cons (ps_set (i := 2) scLaw.nd rfl (.inl rfl) (pe_lst (pa_cons (pe_str) (pa_cons (pe_str) (pa_cons (pe_str) (pa_cons (pe_str) (pa_cons (pe_str) (pa_cons (pe_str) pa_nil))))))))
      (pss_cons (ps_for PassesOwn.never rfl (pi_range1 rfl T.range (pa_cons (pe_int) pa_nil)) (pg_name (i := 3) scLaw.nd rfl (.inl rfl)) (pss_cons (ps_asg (pe_call CAny.ok (hr.mono (by decide)) rfl CAny.mg CAny.kp CAny.b .nil pass0 (pa_cons (pv 1) pa_nil)) (pg_tup rfl (pgs_cons (pg_name (i := 4) scLaw.nd rfl (.inl rfl)) (pgs_cons (pg_name (i := 5) scLaw.nd rfl (.inl rfl)) pgs_nil))))
      (pss_cons (ps_set (i := 6) scLaw.nd rfl (.inl rfl) (pe_make R.mkC GI (hr.mono (by decide)) rfl R.gC bI .nil pass0 (pa_cons (pv 4) (pa_cons (pv 5) pa_nil))))
      (pss_cons (ps_for PassesOwn.never rfl (pi_list (pv 2)) (pg_name (i := 7) scLaw.nd rfl (.inl rfl)) (pss_cons (ps_set (i := 8) scLaw.nd rfl (.inr rfl) (pe_call CClo.ok (hr.mono (by decide)) rfl CClo.mg CClo.kp CClo.b .nil pass0 (pa_cons (pv 5) (pa_cons (pe_call CTab.ok (hr.mono (by decide)) rfl CTab.mg CTab.kp CTab.b .nil pass0 (pa_cons (pv 7) pa_nil)) pa_nil))))
      (pss_cons (ps_set (i := 10) scLaw.nd rfl (.inl rfl) (pe_callB (call_reprD rfl hu) (by rfl) T.repr (by decide +kernel) (pa_cons (pe_tup (pa_cons (pv 4) (pa_cons (pe_callTy call_tuple_of (by rfl) T.tuple (by decide +kernel) (pa_cons (pe_lc (own := [("_law_row", 9)]) (g := gName 9) (tt := tTest (tOp (rInD K) (tVar 9) (tVar 8))) rfl scLaw.nd (pi_list (pe_call CAll.ok (hr.mono (by decide)) rfl CAll.mg CAll.kp CAll.b .nil pass0 (pa_cons (pv 4) pa_nil))) (blkOk_by (N := nLaw) (sc := defScope sLaw) (by decide +kernel)) (fun _ _ _ _ _ => pg_name (i := 9) scLaw.nd rfl (.inl rfl)) (fun _ _ _ _ _ => pts_one (pt_cmpR (op_inD hu) (pv 9) (pv 8) (by rfl))) (fun _ _ _ _ _ => pv 9)) pa_nil)) pa_nil))) pa_nil)))
      (pss_cons (ps_set (i := 11) scLaw.nd rfl (.inl rfl) (pe_call CL.ok (hr.mono (by decide)) rfl CL.mg CL.kp CL.b .nil (passes_call takes0 fun _ _ _ _ h => h) (pa_cons (pv 6) (pa_cons (pv 7) pa_nil))))
      (pss_cons (ps_if (PW.pt (pw_or (pt_not (pt_val (pe_callB call_isi (by rfl) T.isinst (by decide +kernel) (pa_cons (pv 11) (pa_cons (pe_glob (v := .ref C) rfl R.gC rfl) pa_nil))))) (pw_or1 (pt_cmpR op_ne (pe_callB (call_reprD rfl hu) (by rfl) T.repr (by decide +kernel) (pa_cons (pe_tup (pa_cons (pe_fld (pv 11) rfl) (pa_cons (pe_fld (pv 11) rfl) pa_nil))) pa_nil)) (pv 10) (nomark _))))) (pss_one (ps_ret (pe_bl))) (pss_nil))
      (pss_cons (ps_set (i := 12) scLaw.nd rfl (.inl rfl) (pe_call CL.ok (hr.mono (by decide)) rfl CL.mg CL.kp CL.b .nil (passes_call takes0 fun _ _ _ _ h => h) (pa_cons (pv 11) (pa_cons (pv 7) pa_nil))))
      (pss_one (ps_if (PW.pt (pw_or (pt_cmpR op_ne (pe_callB (call_reprD rfl hu) (by rfl) T.repr (by decide +kernel) (pa_cons (pe_tup (pa_cons (pe_fld (pv 12) rfl) (pa_cons (pe_fld (pv 12) rfl) pa_nil))) pa_nil)) (pv 10) (nomark _)) (pw_or1 (pt_cmpR op_ne (pe_callB (call_reprD rfl hu) (by rfl) T.repr (by decide +kernel) (pa_cons (pe_tup (pa_cons (pe_fld (pv 6) rfl) (pa_cons (pe_fld (pv 6) rfl) pa_nil))) pa_nil)) (pe_callB (call_reprD rfl hu) (by rfl) T.repr (by decide +kernel) (pa_cons (pe_tup (pa_cons (pv 4) (pa_cons (pv 5) pa_nil))) pa_nil)) (nomark _))))) (pss_one (ps_ret (pe_bl))) (pss_nil)))))))))
      (pss_cons (ps_set (i := 13) scLaw.nd rfl (.inl rfl) (pe_ix ix_list (pe_lst (pa_cons (pe_str) (pa_cons (pe_str) (pa_cons (pe_str) (pa_cons (pe_non) (pa_cons (pe_int) (pa_cons (pe_bl) (pa_cons (pe_tup (pa_cons (pe_str) pa_nil)) (pa_cons (pe_lst (pa_cons (pe_str) pa_nil)) (pa_cons (pe_str) (pa_cons (pe_str) pa_nil))))))))))) (pe_call CTake.ok (hr.mono (by decide)) rfl CTake.mg CTake.kp CTake.b .nil pass0 (pa_cons (pv 1) (pa_cons (pe_int) pa_nil))) (fun _ _ => rfl)))
      (pss_one (ps_if (pt_cmpR op_ne (pe_call CRef.ok hr rfl CRef.mg CRef.kp CRef.b .nil pass0 (pa_cons (pv 6) (pa_cons (pv 13) pa_nil))) (pe_callB call_reprS (by rfl) T.repr (by decide +kernel) (pa_cons pe_str pa_nil)) (nomark _)) (pss_one (ps_ret (pe_bl))) (pss_nil))))))))
      (pss_one (ps_ret (pe_bl))))), ?_⟩
  refine ⟨_, rfl, a0, ns, rfl, hS, hn, fun H1 dd ds e1 hdd0 hdd hds => ⟨by show 2 ≤ sizeLine; decide, fun a ha => ?_⟩⟩
  have hH2 : HandAt (upd H1 a (.lst [.ref dd, .int 0])) a dd := ⟨0, ds, upd_same, by rw [upd_ne (ne_of_none hdd ha)]; exact hdd, hds⟩
  refine ⟨by show 6 ≤ sizeLine; decide, fun wl hwl => ?_⟩
  generalize hH3 : upd (upd H1 a (.lst [.ref dd, .int 0])) wl (.lst _) = H3
  have hw3 : H3 wl = some (.lst (wordsL.map V.str)) := by rw [← hH3]; exact upd_same
  have hH3' : HandAt H3 a dd := by rw [← hH3]; exact hH2.same (same_new hwl)
  refine ⟨2, rfl, by decide, by decide, for_range (lo := 0) (n := 2) (fun i σ H4 => ∃ v3 v4 v5 v6 v7 v8 v9 v10 v11 v12 v13 : Option V, σ = [some (.ref a0), some (.ref a), some (.ref wl), v3, v4, v5, v6, v7, v8, v9, v10, v11, v12, v13] ∧ HandAt H4 a dd ∧ H4 wl = some (.lst (wordsL.map V.str)))
    ⟨none, none, none, none, none, none, none, none, none, none, none, rfl, hH3', hw3⟩ ?_ ?_⟩
  · rintro i σ H4 hi ⟨v3, v4, v5, v6, v7, v8, v9, v10, v11, v12, v13, rfl, hH4, hw4⟩
    have nwa : wl ≠ a := fun z => by
      obtain ⟨_, _, h, _⟩ := hH4.at_
      rw [← z, hw4] at h
      have e := Option.some.inj h
      injection e with e
      cases e
    -- size, rows = _law_any(hand)
    refine ⟨_, rfl, a, dd, rfl, hH4, fun H5 p t us k rs hH5 k5 hp ht hus dr => ?_⟩
    have ok := dr.ok
    have sh := ok.shows
    have hw5 := k5 _ _ hw4 nwa
    refine ⟨p, [.int k, .ref t], rfl, SqT.of hp, rfl, ?_⟩
    refine ⟨_, _, rfl, _, _, rfl, rfl, ?_⟩
    -- relation = Relation(size, rows)
    refine ⟨_, rfl, _, rfl, fun x dx hx hdx hne => ?_⟩
    have hd1 : Same H5 (upd H5 dx (.own x)) := same_new hdx
    have hx1 : upd H5 dx (.own x) x = none := by rw [upd_ne (Ne.symm hne)]; exact hx
    have eI : Same H5 (upd (upd H5 dx (.own x)) x (.ins C dx [])) := hd1.trans (same_new hx1)
    refine ⟨x, dx, t, us, rs, k, rfl, upd_same, .inr (eI _ _ ht), hus.same eI, ok, fun H6 L kp ra perm asc => ⟨rfl, ?_⟩⟩
    have eL : L = rs := asc_unique asc dr.asc fun r => perm.mem_iff
    rw [eL] at ra
    have e6 : Same H5 H6 := fun b o hb => kp b o (eI _ _ hb) (ne_of_none hb hx)
    have hw6 := e6 _ _ hw5
    have hH6 := hH5.same e6
    -- for word in words
    refine ⟨_, rfl, wl, rfl, ⟨_, SqL.of hw6⟩, for_list (K := K) (a := wl) (xs := wordsL.map V.str) (fun j σ H7 => ∃ v7 v8 v9 v10 v11 v12 v13 : Option V, σ = [some (.ref a0), some (.ref a), some (.ref wl), some (.int (0 + (i : Int))), some (.int k), some (.ref t), some (.ref x), v7, v8, v9, v10, v11, v12, v13] ∧ Same H6 H7)
      ⟨v7, v8, v9, v10, v11, v12, v13, rfl, Same.refl H6⟩ (fun j σ H7 _ ⟨_, _, _, _, _, _, _, _, e7⟩ => SqL.of (e7 _ _ hw6)) ?_ ?_⟩
    · rintro j y σ H7 hj ⟨v7, v8, v9, v10, v11, v12, v13, rfl, e7⟩
      obtain ⟨z, m, Tb, rfl, hz⟩ := word_at hj
      obtain ⟨m1, m3⟩ := hz.pos
      have e57 := e6.trans e7
      -- closed_here = _law_closed(rows, _law_table(word))
      refine ⟨_, rfl, _, rfl, z, m, Tb, rfl, hz, fun H8 tt e8 htt => ?_⟩
      have e58 := e57.trans e8
      refine ⟨t, tt, Tb, m, k, us, rs, rfl, SqT.of (e58 _ _ ht), hus.same e58, ok.nd, ok.len, ok.ne, ok.k4, htt, hz.len, hz.sym, m1, m3, fun H9 c cs Lc e9 hc0 hc hcs icl => ?_⟩
      have e59 := e58.trans e9
      -- due = repr((size, tuple([..])))
      refine ⟨_, rfl, _, rfl, k, rfl, ok.k4, fun H10 q qs e10 hq0 hq hqs => ?_⟩
      have hql := hqs.length
      have hq16 : qs.length ≤ 16 := by rw [hql]; exact allRows_len_le ok.k4
      have hc10 := e10 _ _ hc
      have hcs10 := hcs.same e10
      refine ⟨q, rfl, ⟨qs, SqL.of hq⟩, fun D hD => lc_list (K := K) (a := q) (xs := qs) (fun i H11 => Same H10 H11 ∧ ∃ acc, H11 D = some (.lst acc) ∧ RowsAt H11 acc (((allRows k).take i).filter fun r => decide (r ∈ Lc)))
        ⟨same_new hD, [], upd_same, .nil⟩ (fun i H11 _ ⟨e11, _⟩ => SqL.of (e11 _ _ hq)) ?_ ?_⟩
      · rintro i x H11 hi ⟨e11, acc, hacc, hra⟩
        obtain ⟨r, hr, hru⟩ := Paired.at_ hqs hi
        have hal : acc.length ≤ 16 := by
          rw [hra.length]
          refine Nat.le_trans (List.length_filter_le _ _) ?_
          rw [List.length_take, ← hql]
          omega
        refine ⟨rfl, _, rfl, _, rfl, in_rows (hru.same e11) (e11 _ _ hc10) (hcs10.same e11) ⟨_, rfl, ?_⟩⟩
        have fm := filt_more (fun r => decide (r ∈ Lc)) hr
        refine ite2 (fun c => ?_) (fun c => ?_)
        · have kk : Kp D H11 (upd H11 D (.lst (acc ++ [x]))) := (Kp.refl D H11).upd
          refine ⟨_, rfl, acc, hacc, by rw [sizeLine_eq]; omega, same_upd e11 hD, _, upd_same, ?_⟩
          rw [fm, if_pos c]
          exact (kk.rows hacc hra).append (.cons (kk.row hacc (hru.same e11)) .nil)
        · refine ⟨e11, acc, hacc, ?_⟩
          rw [fm, if_neg c, List.append_nil]
          exact hra
      · rintro H11 ⟨e11, acc, hacc, hra⟩
        rw [hql, List.take_length] at hra
        generalize hF : (allRows k).filter (fun r => decide (r ∈ Lc)) = Fl at hra
        have Fmem : ∀ r, r ∈ Fl ↔ Cl m Tb k (fun r => r ∈ rs) r := fun r => by
          rw [← hF, List.mem_filter, mem_allRows, decide_eq_true_iff, icl.mem]
          exact ⟨fun h => h.2, fun h => ⟨h.len ok.len, h⟩⟩
        have Fasc : Asc Fl := by rw [← hF]; exact asc_filter _ (asc_allRows k)
        have Fne : Fl ≠ [] := fun e => by
          cases hrs : rs with
          | nil => exact ok.ne hrs
          | cons r0 rt =>
            have := (Fmem r0).mpr (.base (by rw [hrs]; exact List.mem_cons_self))
            rw [e] at this
            cases this
        have okF : RowsOk k Fl := ⟨ok.k1, ok.k4, Fne, asc_nodup Fasc, fun r hr => ((Fmem r).mp hr).len ok.len⟩
        have shF := okF.shows
        refine ⟨D, acc, rfl, .inl ⟨SqL.of hacc, fun tu htu => ⟨by show 2 ≤ sizeLine; decide, fun pr hpr => ?_⟩⟩⟩
        have e12 : Same H11 (upd H11 tu (.tup acc)) := same_new htu
        have e13 := same_new (o := .tup [.int k, .ref tu]) hpr
        refine ⟨pr, relD k Fl, rfl, dp_rel upd_same (e13 _ _ upd_same) (hra.same (e12.trans e13)), shF, ?_⟩
        generalize hH13 : upd (upd H11 tu (.tup acc)) pr (.tup [.int k, .ref tu]) = H13
        have e5d : Same H5 H13 := by
          rw [← hH13]
          exact e59.trans (e10.trans (e11.trans (e12.trans e13)))
        have e6d : Same H6 H13 := by
          rw [← hH13]
          exact e7.trans (e8.trans (e9.trans (e10.trans (e11.trans (e12.trans e13)))))
        -- actual = least_kept(relation, word)
        refine ⟨_, rfl, _, rfl, x, .str z, k, rs, rfl, ra.same e6d, ok, .inl ⟨z, m, Tb, rfl, hz, fun H14 q2 L2 e14 ra2 asc2 mem2 => ?_⟩⟩
        have eL2 : L2 = Fl := asc_unique asc2 Fasc fun r => (mem2 r).trans (Fmem r).symm
        rw [eL2] at ra2
        obtain ⟨dx2, t2, us2, ha2, _, _⟩ := ra2.at_
        refine ⟨_, rfl, _, _, _, _, true, rfl, .own _, .base (.ins ha2 R.cl RI.clsAt RI.getAt RI.takes RI.objIn), RI.is, true, rfl, iteF ?_⟩
        refine rel_text R rfl ra2 shF fun H15 e15 => ⟨_, rfl, rfl, _, rfl, iteNS rfl ?_⟩
        -- again = least_kept(actual, word)
        have ra3 := ra2.same e15
        refine ⟨_, rfl, _, rfl, q2, .str z, k, Fl, rfl, ra3, okF, .inl ⟨z, m, Tb, rfl, hz, fun H16 q3 L3 e16 ra4 asc3 mem3 => ?_⟩⟩
        have eL3 : L3 = Fl := asc_unique asc3 Fasc fun r => (mem3 r).trans ⟨fun h => (Fmem r).mpr (Cl.again (h.congr fun q hq => (Fmem q).mp hq)), fun h => .base h⟩
        rw [eL3] at ra4
        refine rel_text R rfl ra4 shF fun H17 e17 => ⟨_, rfl, rfl, _, rfl, iteNS rfl ?_⟩
        have e6e := e6d.trans (e14.trans (e15.trans (e16.trans e17)))
        refine rel_text R rfl (ra.same e6e) sh fun H18 e18 => pair_text rfl rfl ((e6.trans (e6e.trans e18)) _ _ ht) (hus.same (e6.trans (e6e.trans e18))) sh fun H19 e19 => ⟨rfl, _, rfl, iteNS rfl ?_⟩
        exact ⟨_, _, _, _, _, _, _, rfl, e6e.trans (e18.trans e19)⟩
    · rintro σ H7 ⟨v7, v8, v9, v10, v11, v12, v13, rfl, e7⟩
      -- wrong = [..][_law_take(hand, 10)]
      refine ⟨by show 1 ≤ sizeLine; decide, fun t1 ht1 => ⟨by show 1 ≤ sizeLine; decide, fun l1 hl1 => ⟨by show 10 ≤ sizeLine; decide, fun q0 hq0 => ?_⟩⟩⟩
      have f1 : Same H7 (upd H7 t1 (.tup [.str "and"])) := same_new ht1
      have f2 : Same (upd H7 t1 (.tup [.str "and"])) (upd (upd H7 t1 (.tup [.str "and"])) l1 (.lst [.str "and"])) := same_new hl1
      generalize hH8 : upd (upd H7 t1 (.tup [.str "and"])) l1 (.lst [.str "and"]) = H8 at hq0 f2
      have ht8 : H8 t1 = some (.tup [.str "and"]) := f2 _ _ upd_same
      have hl8 : H8 l1 = some (.lst [.str "and"]) := by rw [← hH8]; exact upd_same
      have f3 := same_new (o := .lst [.str "And", .str "", .str "odd", .non, .int 0, .bl true, .ref t1, .ref l1, .str "majority ", .str "plain"]) hq0
      have f79 := f1.trans (f2.trans f3)
      have hH9 := hH6.same (e7.trans f79)
      refine ⟨_, rfl, a, dd, 10, rfl, hH9, by decide, fun j H11 l10 g10 hH11 k11 => ?_⟩
      obtain ⟨_, _, ha9, _⟩ := id hH9.at_
      have k11' : Kp a _ H11 := k11
      have naq : q0 ≠ a := (hH6.same (e7.trans (f1.trans f2))).free hq0 |>.1
      have nt1 : t1 ≠ a := ((hH6.same e7).free ht1).1
      have nl1 : l1 ≠ a := ((hH6.same (e7.trans f1)).free hl1).1
      obtain ⟨item, hat, hbad⟩ := wrong_at NW (k11' _ _ (f3 _ _ ht8) nt1) (k11' _ _ (f3 _ _ hl8) nl1) l10 g10
      refine ⟨q0, _, j, item, rfl, rfl, SqL.of (k11' _ _ upd_same naq), hat, ?_⟩
      refine ⟨_, rfl, _, rfl, x, item, k, rs, rfl, RelAt.kp (ra.same (e7.trans f79)) k11' ha9, ok, hbad, fun H12 e12 => ⟨_, rfl, by decide +kernel, rfl, _, rfl, iteNS rfl ?_⟩⟩
      exact ⟨_, _, _, _, _, _, _, _, _, _, _, rfl, hH11.same e12, e12 _ _ (k11' _ _ (f79 _ _ (e7 _ _ hw6)) nwa)⟩
  · rintro σ H4 ⟨v3, v4, v5, v6, v7, v8, v9, v10, v11, v12, v13, rfl, hH4, hw4⟩
    rfl
end
end KW
end

section
set_option Elab.async false
set_option linter.all false
set_option maxRecDepth 100000
set_option maxHeartbeats 8000000
namespace KW
open PySem L2 KM
/-! ### all that the top has written, and the law -/
theorem sq_written {K : PySem.W.Frag} {t : Addr} {od : Option Addr} {its : List Value} {n : Nat} {sl : Array (Option Value)} {T : List Bool} (l : K.lookup t = some ⟨.type "tuple", od, .seq its.toArray n, sl⟩) (z : its.length ≤ sizeLine) (r : Vals (T.map bv) its) : ∀ H, SqT K H t (T.map bv) :=
  fun H => .inr ⟨_, its.toArray, n, l, rfl, rfl, by rw [List.size_toArray]; exact z, by simpa using r⟩
/-- the law's call gives True, at any heap behind the top -/
def Runs (P : Program) (w : World) (K : PySem.W.Frag) (mg : Str → Option Value) (fa : Addr) : Prop := ∀ (s1 : Shared) (a : Addr) (ns : List Int) (base : Heap) (H : Hp), ns.length ≤ 63 → SqL K H a (ns.map V.int) → Env0 P w K mg base callerA [] s1 H →
  codeAny (model P w) callerA (.call (.ref fa) ⟨[.ref a], []⟩) (L2.CR CX0 [] P w H s1 (fun v _ => v = .bl true) E0) s1
/-- the goal that the head leaves, from that -/
theorem walk_at {l : PySem.W.OpenLaw} {q : Program} {loose : List Str} {XP : (Str → Option Value) → Heap → Prop} {YP : World → Heap → Prop} {d : DefRec} {K : Params → PySem.W.Frag} (hn : l.most = some 63) (hdf : d.params.defaults = []) (hY : ∀ (w : World) (h : Heap), YP w h → (K w.params).In h)
    (F : ∀ (w : World) (mg : Str → Option Value) (fa : Addr) (h : Heap), (K w.params).In h → h.Ns mainGlobals mg → mg d.name = some (.ref fa) → Runs l.prog w (K w.params) mg fa) : PySem.W.WalkO q loose XP YP l.row.toRowW d [] (fun f vs => PySem.call f vs) := by
  refine Att.attach_call hn hdf fun w s0 s1 mg mb fa o pm cd doc a vs ns G Y ho hd hcd hmg hobj hints hlen hg => ?_
  have kin := hY w _ Y
  exact call_end kin G.T.g G.T.b G.T.builtins G.T.nolimit hg hobj hints (Nat.le_trans hlen (by decide)) fun base H hS e0 => F w mg fa _ kin G.T.g hmg s1 a ns base H hlen hS e0
theorem all_mk {P : Program} {w : World} {K : PySem.W.Frag} {h : Heap} {mg : Str → Option Value} {fa C CU CC CN CR dT f1 f2 f3 f4 f5 f6 f7 f8 f9 f10 f11 f12 f13 f14 f15 f16 f17 f18 f19 f20 f21 f22 t0 t1 t2 t3 t4 t5 : Addr} (X : K.In h) (G : h.Ns mainGlobals mg) (hfa : mg "law" = some (.ref fa))
    {nm q : Str} {NN : Addr} {bs bm sub : List Value} {sn : List Str} {ab : Bool} {col : Option Bool} {dd : Option Addr} {m0 m1 m2 m3 m5 : Option Value} {tM : Tok} {es : Array DictEntry} {nd : Nat}
    {to0 to1 to2 to3 to4 to5 : Option Addr} {tn0 tn1 tn2 tn3 tn4 tn5 : Nat} {ts0 ts1 ts2 ts3 ts4 ts5 : Array (Option Value)} {k0_0 k0_1 k1_0 k1_1 k2_0 k2_1 k2_2 k2_3 k3_0 k3_1 k3_2 k3_3 k4_0 k4_1 k4_2 k4_3 k4_4 k4_5 k4_6 k4_7 k5_0 k5_1 k5_2 k5_3 k5_4 k5_5 k5_6 k5_7 : Tok}
    {od1 an1 : Option Addr} {sl1 : Array (Option Value)} {oc1 kV1 dc1 pm1 cd1 ct1 : Value}
    {od2 an2 : Option Addr} {sl2 : Array (Option Value)} {oc2 kV2 dc2 pm2 cd2 ct2 : Value}
    {od3 an3 : Option Addr} {sl3 : Array (Option Value)} {oc3 kV3 dc3 pm3 cd3 ct3 : Value}
    {od4 an4 : Option Addr} {sl4 : Array (Option Value)} {oc4 kV4 dc4 pm4 cd4 ct4 : Value}
    {od5 an5 : Option Addr} {sl5 : Array (Option Value)} {oc5 kV5 dc5 pm5 cd5 ct5 : Value}
    {od6 an6 : Option Addr} {sl6 : Array (Option Value)} {oc6 kV6 dc6 pm6 cd6 ct6 : Value}
    {od7 an7 : Option Addr} {sl7 : Array (Option Value)} {oc7 kV7 dc7 pm7 cd7 ct7 : Value}
    {od8 an8 : Option Addr} {sl8 : Array (Option Value)} {oc8 kV8 dc8 pm8 cd8 ct8 : Value}
    {od9 an9 : Option Addr} {sl9 : Array (Option Value)} {oc9 kV9 dc9 pm9 cd9 ct9 : Value}
    {od10 an10 : Option Addr} {sl10 : Array (Option Value)} {oc10 kV10 dc10 pm10 cd10 ct10 : Value}
    {od11 an11 : Option Addr} {sl11 : Array (Option Value)} {oc11 kV11 dc11 pm11 cd11 ct11 : Value}
    {od12 an12 : Option Addr} {sl12 : Array (Option Value)} {oc12 kV12 dc12 pm12 cd12 ct12 : Value}
    {od13 an13 : Option Addr} {sl13 : Array (Option Value)} {oc13 kV13 dc13 pm13 cd13 ct13 : Value}
    {od14 an14 : Option Addr} {sl14 : Array (Option Value)} {oc14 kV14 dc14 pm14 cd14 ct14 : Value}
    {od15 an15 : Option Addr} {sl15 : Array (Option Value)} {oc15 kV15 dc15 pm15 cd15 ct15 : Value}
    {od16 an16 : Option Addr} {sl16 : Array (Option Value)} {oc16 kV16 dc16 pm16 cd16 ct16 : Value}
    {od17 an17 : Option Addr} {sl17 : Array (Option Value)} {oc17 kV17 dc17 pm17 cd17 ct17 : Value}
    {od18 an18 : Option Addr} {sl18 : Array (Option Value)} {oc18 kV18 dc18 pm18 cd18 ct18 : Value}
    {od19 an19 : Option Addr} {sl19 : Array (Option Value)} {oc19 kV19 dc19 pm19 cd19 ct19 : Value}
    {od20 an20 : Option Addr} {sl20 : Array (Option Value)} {oc20 kV20 dc20 pm20 cd20 ct20 : Value}
    {od21 an21 : Option Addr} {sl21 : Array (Option Value)} {oc21 kV21 dc21 pm21 cd21 ct21 : Value}
    {od22 an22 : Option Addr} {sl22 : Array (Option Value)} {oc22 kV22 dc22 pm22 cd22 ct22 : Value}
    (aC : PySem.W.nsIn K mainGlobals "Relation" = some (some (.ref C)))
    (aU : PySem.W.nsIn K mainGlobals "Undefined" = some (some (.ref CU)))
    (aE : PySem.W.nsIn K mainGlobals "CellError" = some (some (.ref CC)))
    (aN : PySem.W.nsIn K mainGlobals "InvalidNumber" = some (some (.ref CN)))
    (aR : PySem.W.nsIn K mainGlobals "InvalidRelation" = some (some (.ref CR)))
    (a1 : PySem.W.nsIn K mainGlobals "is_below" = some (some (.ref f1)))
    (l1 : K.lookup f1 = some ⟨oc1, od1, .func (PySem.W.fnOf "is_below" "is_below" (defArgs sIsBelow) (defBody sIsBelow) (defScope sIsBelow) .none kV1 dc1 pm1 an1 cd1 ct1), sl1⟩)
    (c1 : PySem.W.codeIn K cd1 "is_below" = true)
    (k1 : PySem.W.keepIn K (.ref f1) = true)
    (a2 : PySem.W.nsIn K mainGlobals "is_row" = some (some (.ref f2)))
    (l2 : K.lookup f2 = some ⟨oc2, od2, .func (PySem.W.fnOf "is_row" "is_row" (defArgs sIsRow) (defBody sIsRow) (defScope sIsRow) .none kV2 dc2 pm2 an2 cd2 ct2), sl2⟩)
    (c2 : PySem.W.codeIn K cd2 "is_row" = true)
    (k2 : PySem.W.keepIn K (.ref f2) = true)
    (a3 : PySem.W.nsIn K mainGlobals "are_rows" = some (some (.ref f3)))
    (l3 : K.lookup f3 = some ⟨oc3, od3, .func (PySem.W.fnOf "are_rows" "are_rows" (defArgs sAreRows) (defBody sAreRows) (defScope sAreRows) .none kV3 dc3 pm3 an3 cd3 ct3), sl3⟩)
    (c3 : PySem.W.codeIn K cd3 "are_rows" = true)
    (k3 : PySem.W.keepIn K (.ref f3) = true)
    (a4 : PySem.W.findIn K (.ref C) "__init__" = some (some (.ref f4)))
    (l4 : K.lookup f4 = some ⟨oc4, od4, .func (PySem.W.fnOf "__init__" "Relation.__init__" (defArgs sRelI) (defBody sRelI) (defScope sRelI) .none kV4 dc4 pm4 an4 cd4 ct4), sl4⟩)
    (c4 : PySem.W.codeIn K cd4 "Relation.__init__" = true)
    (k4 : PySem.W.keepIn K (.ref f4) = true)
    (a5 : PySem.W.findIn K (.ref CU) "__init__" = some (some (.ref f5)))
    (l5 : K.lookup f5 = some ⟨oc5, od5, .func (PySem.W.fnOf "__init__" "Undefined.__init__" (defArgs sUndI) (defBody sUndI) (defScope sUndI) .none kV5 dc5 pm5 an5 cd5 ct5), sl5⟩)
    (c5 : PySem.W.codeIn K cd5 "Undefined.__init__" = true)
    (k5 : PySem.W.keepIn K (.ref f5) = true)
    (a6 : PySem.W.nsIn K mainGlobals "number_of" = some (some (.ref f6)))
    (l6 : K.lookup f6 = some ⟨oc6, od6, .func (PySem.W.fnOf "number_of" "number_of" (defArgs sNum) (defBody sNum) (defScope sNum) .none kV6 dc6 pm6 an6 cd6 ct6), sl6⟩)
    (c6 : PySem.W.codeIn K cd6 "number_of" = true)
    (k6 : PySem.W.keepIn K (.ref f6) = true)
    (a7 : PySem.W.nsIn K mainGlobals "spelled" = some (some (.ref f7)))
    (l7 : K.lookup f7 = some ⟨oc7, od7, .func (PySem.W.fnOf "spelled" "spelled" (defArgs sSpell) (defBody sSpell) (defScope sSpell) .none kV7 dc7 pm7 an7 cd7 ct7), sl7⟩)
    (c7 : PySem.W.codeIn K cd7 "spelled" = true)
    (k7 : PySem.W.keepIn K (.ref f7) = true)
    (a8 : PySem.W.nsIn K mainGlobals "made_row" = some (some (.ref f8)))
    (l8 : K.lookup f8 = some ⟨oc8, od8, .func (PySem.W.fnOf "made_row" "made_row" (defArgs sMade) (defBody sMade) (defScope sMade) .none kV8 dc8 pm8 an8 cd8 ct8), sl8⟩)
    (c8 : PySem.W.codeIn K cd8 "made_row" = true)
    (k8 : PySem.W.keepIn K (.ref f8) = true)
    (a9 : PySem.W.nsIn K mainGlobals "table_of" = some (some (.ref f9)))
    (l9 : K.lookup f9 = some ⟨oc9, od9, .func (PySem.W.fnOf "table_of" "table_of" (defArgs sTab) (defBody sTab) (defScope sTab) .none kV9 dc9 pm9 an9 cd9 ct9), sl9⟩)
    (c9 : PySem.W.codeIn K cd9 "table_of" = true)
    (k9 : PySem.W.keepIn K (.ref f9) = true)
    (a10 : PySem.W.nsIn K mainGlobals "places_of" = some (some (.ref f10)))
    (l10 : K.lookup f10 = some ⟨oc10, od10, .func (PySem.W.fnOf "places_of" "places_of" (defArgs sPl) (defBody sPl) (defScope sPl) .none kV10 dc10 pm10 an10 cd10 ct10), sl10⟩)
    (c10 : PySem.W.codeIn K cd10 "places_of" = true)
    (k10 : PySem.W.keepIn K (.ref f10) = true)
    (a11 : PySem.W.nsIn K mainGlobals "tuples_of" = some (some (.ref f11)))
    (l11 : K.lookup f11 = some ⟨oc11, od11, .func (PySem.W.fnOf "tuples_of" "tuples_of" (defArgs sTup) (defBody sTup) (defScope sTup) .none kV11 dc11 pm11 an11 cd11 ct11), sl11⟩)
    (c11 : PySem.W.codeIn K cd11 "tuples_of" = true)
    (k11 : PySem.W.keepIn K (.ref f11) = true)
    (a12 : PySem.W.nsIn K mainGlobals "least_kept" = some (some (.ref f12)))
    (l12 : K.lookup f12 = some ⟨oc12, od12, .func (PySem.W.fnOf "least_kept" "least_kept" (defArgs sLk) (defBody sLk) (defScope sLk) .none kV12 dc12 pm12 an12 cd12 ct12), sl12⟩)
    (c12 : PySem.W.codeIn K cd12 "least_kept" = true)
    (k12 : PySem.W.keepIn K (.ref f12) = true)
    (a13 : PySem.W.nsIn K mainGlobals "_law_draws" = some (some (.ref f13)))
    (l13 : K.lookup f13 = some ⟨oc13, od13, .func (PySem.W.fnOf "_law_draws" "_law_draws" (defArgs sDraws) (defBody sDraws) (defScope sDraws) .none kV13 dc13 pm13 an13 cd13 ct13), sl13⟩)
    (c13 : PySem.W.codeIn K cd13 "_law_draws" = true)
    (k13 : PySem.W.keepIn K (.ref f13) = true)
    (a14 : PySem.W.nsIn K mainGlobals "_law_take" = some (some (.ref f14)))
    (l14 : K.lookup f14 = some ⟨oc14, od14, .func (PySem.W.fnOf "_law_take" "_law_take" (defArgs sTake) (defBody sTake) (defScope sTake) .none kV14 dc14 pm14 an14 cd14 ct14), sl14⟩)
    (c14 : PySem.W.codeIn K cd14 "_law_take" = true)
    (k14 : PySem.W.keepIn K (.ref f14) = true)
    (a15 : PySem.W.nsIn K mainGlobals "_law_all_rows" = some (some (.ref f15)))
    (l15 : K.lookup f15 = some ⟨oc15, od15, .func (PySem.W.fnOf "_law_all_rows" "_law_all_rows" (defArgs sAll) (defBody sAll) (defScope sAll) .none kV15 dc15 pm15 an15 cd15 ct15), sl15⟩)
    (c15 : PySem.W.codeIn K cd15 "_law_all_rows" = true)
    (k15 : PySem.W.keepIn K (.ref f15) = true)
    (a16 : PySem.W.nsIn K mainGlobals "_law_table" = some (some (.ref f16)))
    (l16 : K.lookup f16 = some ⟨oc16, od16, .func (PySem.W.fnOf "_law_table" "_law_table" (defArgs sLTab) (defBody sLTab) (defScope sLTab) .none kV16 dc16 pm16 an16 cd16 ct16), sl16⟩)
    (c16 : PySem.W.codeIn K cd16 "_law_table" = true)
    (k16 : PySem.W.keepIn K (.ref f16) = true)
    (a17 : PySem.W.nsIn K mainGlobals "_law_made" = some (some (.ref f17)))
    (l17 : K.lookup f17 = some ⟨oc17, od17, .func (PySem.W.fnOf "_law_made" "_law_made" (defArgs sLMade) (defBody sLMade) (defScope sLMade) .none kV17 dc17 pm17 an17 cd17 ct17), sl17⟩)
    (c17 : PySem.W.codeIn K cd17 "_law_made" = true)
    (k17 : PySem.W.keepIn K (.ref f17) = true)
    (a18 : PySem.W.nsIn K mainGlobals "_law_chosen" = some (some (.ref f18)))
    (l18 : K.lookup f18 = some ⟨oc18, od18, .func (PySem.W.fnOf "_law_chosen" "_law_chosen" (defArgs sCho) (defBody sCho) (defScope sCho) .none kV18 dc18 pm18 an18 cd18 ct18), sl18⟩)
    (c18 : PySem.W.codeIn K cd18 "_law_chosen" = true)
    (k18 : PySem.W.keepIn K (.ref f18) = true)
    (a19 : PySem.W.nsIn K mainGlobals "_law_closed" = some (some (.ref f19)))
    (l19 : K.lookup f19 = some ⟨oc19, od19, .func (PySem.W.fnOf "_law_closed" "_law_closed" (defArgs sClo) (defBody sClo) (defScope sClo) .none kV19 dc19 pm19 an19 cd19 ct19), sl19⟩)
    (c19 : PySem.W.codeIn K cd19 "_law_closed" = true)
    (k19 : PySem.W.keepIn K (.ref f19) = true)
    (a20 : PySem.W.nsIn K mainGlobals "_law_any" = some (some (.ref f20)))
    (l20 : K.lookup f20 = some ⟨oc20, od20, .func (PySem.W.fnOf "_law_any" "_law_any" (defArgs sAny) (defBody sAny) (defScope sAny) .none kV20 dc20 pm20 an20 cd20 ct20), sl20⟩)
    (c20 : PySem.W.codeIn K cd20 "_law_any" = true)
    (k20 : PySem.W.keepIn K (.ref f20) = true)
    (a21 : PySem.W.nsIn K mainGlobals "_law_refusal" = some (some (.ref f21)))
    (l21 : K.lookup f21 = some ⟨oc21, od21, .func (PySem.W.fnOf "_law_refusal" "_law_refusal" (defArgs sRef) (defBody sRef) (defScope sRef) .none kV21 dc21 pm21 an21 cd21 ct21), sl21⟩)
    (c21 : PySem.W.codeIn K cd21 "_law_refusal" = true)
    (k21 : PySem.W.keepIn K (.ref f21) = true)
    (a22 : PySem.W.nsIn K mainGlobals "law" = some (some (.ref f22)))
    (l22 : K.lookup f22 = some ⟨oc22, od22, .func (PySem.W.fnOf "law" "law" (defArgs sLaw) (defBody sLaw) (defScope sLaw) .none kV22 dc22 pm22 an22 cd22 ct22), sl22⟩)
    (c22 : PySem.W.codeIn K cd22 "law" = true)
    (k22 : PySem.W.keepIn K (.ref f22) = true)
    (i4 : PySem.W.isFn K (.ref f4) = true)
    (pg : PySem.W.plainGet K C Str.empty = true)
    (hd : PySem.W.hasDictIn K C = true)
    (po : PySem.W.plainOver K C = true)
    (sa : PySem.W.findIn K (.ref C) "__setattr__" = some (some (.builtin "object.__setattr__")))
    (mk : PySem.W.makesIn K C = true)
    (kc : PySem.W.keepIn K (.ref C) = true)
    (nS : PySem.W.findIn K (.ref C) "size" = some none)
    (nR : PySem.W.findIn K (.ref C) "rows" = some none)
    (rha : PySem.W.findIn K (.ref C) "__class__" = some (some (.builtin "object.__class__")))
    (rhn : PySem.W.specialIn K (.builtin "object.__class__") "__get__" = some (some (.builtin "getset_descriptor.__get__")))
    (rht : PySem.W.takesIn K (.builtin "object.__class__") = some true)
    (rhm : PySem.W.mroIn K C (.type "object") = some true)
    (mp : PySem.W.nsIn K mainGlobals "MOST_PLACES" = some (some (.int 4 tM)))
    (xL : K.lookup CU = some (excClassObj nm q CU NN bs bm true sn sub ab col dd m0 m1 m2 m3 m5 "ValueError.__new__"))
    (xV : PySem.HandSPX.refsVE bm = true)
    (usa : PySem.W.findIn K (.ref CU) "__setattr__" = some (some (.builtin "object.__setattr__")))
    (uex : PySem.W.subIn K (.ref CU) (.type "BaseException") = some true)
    (uty : PySem.W.typeIn K (.ref CU) = some (.type "type"))
    (ukc : PySem.W.keepIn K (.ref CU) = true)
    (uno : PySem.W.findIn K (.ref CU) "what" = some none)
    (uti : PySem.W.typeIn K (.ref f5) = some (.type "function"))
    (uga : PySem.W.findIn K (.ref CU) "__getattribute__" = some (some (.builtin "BaseException.__getattribute__")))
    (ugg : PySem.W.findIn K (.ref CU) "__getattr__" = some none)
    (uhd : PySem.W.hasDictIn K CU = true)
    (uha : PySem.W.findIn K (.ref CU) "__class__" = some (some (.builtin "object.__class__")))
    (uhm : PySem.W.mroIn K CU (.type "object") = some true)
    (eex : PySem.W.subIn K (.ref CC) (.type "BaseException") = some true)
    (ehd : PySem.W.hasDictIn K CC = true)
    (ety : PySem.W.typeIn K (.ref CC) = some (.type "type"))
    (esu : PySem.W.subIn K (.ref CU) (.ref CC) = some true)
    (uiN : PySem.W.kitOne K (.ref CU) (.ref CN) = some false)
    (uiR : PySem.W.kitOne K (.ref CU) (.ref CR) = some false)
    (uiV : PySem.W.kitOne K (.ref CU) (.type "ValueError") = some true)
    (tT : PySem.W.nsIn K mainGlobals "TABLES" = some (some (.ref dT)))
    (tl : K.lookup dT = some ⟨.type "dict", none, .dict es nd, #[]⟩)
    (tk : PySem.W.KeysLit w.params es.toList)
    (tlo : (dT == sysModules) = false)
    (w0 : PySem.W.nsIn K dT "all no" = some (some (.ref t0)))
    (u0 : K.lookup t0 = some ⟨.type "tuple", to0, .seq #[.int 0 k0_0, .int 0 k0_1] tn0, ts0⟩)
    (w1 : PySem.W.nsIn K dT "all yes" = some (some (.ref t1)))
    (u1 : K.lookup t1 = some ⟨.type "tuple", to1, .seq #[.int 1 k1_0, .int 1 k1_1] tn1, ts1⟩)
    (w2 : PySem.W.nsIn K dT "and" = some (some (.ref t2)))
    (u2 : K.lookup t2 = some ⟨.type "tuple", to2, .seq #[.int 0 k2_0, .int 0 k2_1, .int 0 k2_2, .int 1 k2_3] tn2, ts2⟩)
    (w3 : PySem.W.nsIn K dT "or" = some (some (.ref t3)))
    (u3 : K.lookup t3 = some ⟨.type "tuple", to3, .seq #[.int 0 k3_0, .int 1 k3_1, .int 1 k3_2, .int 1 k3_3] tn3, ts3⟩)
    (w4 : PySem.W.nsIn K dT "majority" = some (some (.ref t4)))
    (u4 : K.lookup t4 = some ⟨.type "tuple", to4, .seq #[.int 0 k4_0, .int 0 k4_1, .int 0 k4_2, .int 1 k4_3, .int 0 k4_4, .int 1 k4_5, .int 1 k4_6, .int 1 k4_7] tn4, ts4⟩)
    (w5 : PySem.W.nsIn K dT "odd one" = some (some (.ref t5)))
    (u5 : K.lookup t5 = some ⟨.type "tuple", to5, .seq #[.int 0 k5_0, .int 1 k5_1, .int 1 k5_2, .int 0 k5_3, .int 1 k5_4, .int 0 k5_5, .int 0 k5_6, .int 1 k5_7] tn5, ts5⟩)
    (v0 : PySem.W.nsIn K dT "And" = some none)
    (v1 : PySem.W.nsIn K dT "" = some none)
    (v2 : PySem.W.nsIn K dT "odd" = some none)
    (v3 : PySem.W.nsIn K dT "majority " = some none)
    (v4 : PySem.W.nsIn K dT "plain" = some none)
    (z0 : PySem.W.nsIn K mainGlobals "len" = some none)
    (z1 : PySem.W.nsIn K mainGlobals "range" = some none)
    (z2 : PySem.W.nsIn K mainGlobals "int" = some none)
    (z3 : PySem.W.nsIn K mainGlobals "abs" = some none)
    (z4 : PySem.W.nsIn K mainGlobals "tuple" = some none)
    (z5 : PySem.W.nsIn K mainGlobals "list" = some none)
    (z6 : PySem.W.nsIn K mainGlobals "zip" = some none)
    (z7 : PySem.W.nsIn K mainGlobals "sorted" = some none)
    (z8 : PySem.W.nsIn K mainGlobals "isinstance" = some none)
    (z9 : PySem.W.nsIn K mainGlobals "bool" = some none)
    (z10 : PySem.W.nsIn K mainGlobals "str" = some none)
    (z11 : PySem.W.nsIn K mainGlobals "repr" = some none)
    (z12 : PySem.W.nsIn K mainGlobals "ValueError" = some none) :
    Runs P w K mg fa := by
  have e := hfa.symm.trans (PySem.W.mg_of X G a22)
  cases e
  have T : Txt K mg := ⟨PySem.W.mg_none_of X G z0, PySem.W.mg_none_of X G z1, PySem.W.mg_none_of X G z2, PySem.W.mg_none_of X G z3, PySem.W.mg_none_of X G z4, PySem.W.mg_none_of X G z5, PySem.W.mg_none_of X G z6, PySem.W.mg_none_of X G z7, PySem.W.mg_none_of X G z8, PySem.W.mg_none_of X G z9, PySem.W.mg_none_of X G z10, PySem.W.mg_none_of X G z11⟩
  have F1 := fun_mk (st := sIsBelow) l1 c1 k1
  have b1 := F1.binds (ps := ["value", "limit"]) fun _ _ _ _ _ _ us hl => match us, hl with | [_, _], _ => rfl
  have F2 := fun_mk (st := sIsRow) l2 c2 k2
  have b2 := F2.binds (ps := ["value", "size"]) fun _ _ _ _ _ _ us hl => match us, hl with | [_, _], _ => rfl
  have F3 := fun_mk (st := sAreRows) l3 c3 k3
  have b3 := F3.binds (ps := ["rows", "size"]) fun _ _ _ _ _ _ us hl => match us, hl with | [_, _], _ => rfl
  have F4 := fun_mk (st := sRelI) l4 c4 k4
  have b4 := F4.binds (ps := ["self", "size", "rows"]) fun _ _ _ _ _ _ us hl => match us, hl with | [_, _, _], _ => rfl
  have F5 := fun_mk (st := sUndI) l5 c5 k5
  have b5 := F5.binds (ps := ["self", "what"]) fun _ _ _ _ _ _ us hl => match us, hl with | [_, _], _ => rfl
  have F6 := fun_mk (st := sNum) l6 c6 k6
  have b6 := F6.binds (ps := ["bits"]) fun _ _ _ _ _ _ us hl => match us, hl with | [_], _ => rfl
  have F7 := fun_mk (st := sSpell) l7 c7 k7
  have b7 := F7.binds (ps := ["rows"]) fun _ _ _ _ _ _ us hl => match us, hl with | [_], _ => rfl
  have F8 := fun_mk (st := sMade) l8 c8 k8
  have b8 := F8.binds (ps := ["table", "rows"]) fun _ _ _ _ _ _ us hl => match us, hl with | [_, _], _ => rfl
  have F9 := fun_mk (st := sTab) l9 c9 k9
  have b9 := F9.binds (ps := ["word"]) fun _ _ _ _ _ _ us hl => match us, hl with | [_], _ => rfl
  have F10 := fun_mk (st := sPl) l10 c10 k10
  have b10 := F10.binds (ps := ["table"]) fun _ _ _ _ _ _ us hl => match us, hl with | [_], _ => rfl
  have F11 := fun_mk (st := sTup) l11 c11 k11
  have b11 := F11.binds (ps := ["rows", "many"]) fun _ _ _ _ _ _ us hl => match us, hl with | [_, _], _ => rfl
  have F12 := fun_mk (st := sLk) l12 c12 k12
  have b12 := F12.binds (ps := ["relation", "word"]) fun _ _ _ _ _ _ us hl => match us, hl with | [_, _], _ => rfl
  have F13 := fun_mk (st := sDraws) l13 c13 k13
  have b13 := F13.binds (ps := ["_law_script", "_law_many"]) fun _ _ _ _ _ _ us hl => match us, hl with | [_, _], _ => rfl
  have F14 := fun_mk (st := sTake) l14 c14 k14
  have b14 := F14.binds (ps := ["_law_hand", "_law_many"]) fun _ _ _ _ _ _ us hl => match us, hl with | [_, _], _ => rfl
  have F15 := fun_mk (st := sAll) l15 c15 k15
  have b15 := F15.binds (ps := ["_law_many"]) fun _ _ _ _ _ _ us hl => match us, hl with | [_], _ => rfl
  have F16 := fun_mk (st := sLTab) l16 c16 k16
  have b16 := F16.binds (ps := ["_law_word"]) fun _ _ _ _ _ _ us hl => match us, hl with | [_], _ => rfl
  have F17 := fun_mk (st := sLMade) l17 c17 k17
  have b17 := F17.binds (ps := ["_law_table_here", "_law_rows"]) fun _ _ _ _ _ _ us hl => match us, hl with | [_, _], _ => rfl
  have F18 := fun_mk (st := sCho) l18 c18 k18
  have b18 := F18.binds (ps := ["_law_rows", "_law_table_here"]) fun _ _ _ _ _ _ us hl => match us, hl with | [_, _], _ => rfl
  have F19 := fun_mk (st := sClo) l19 c19 k19
  have b19 := F19.binds (ps := ["_law_rows", "_law_table_here"]) fun _ _ _ _ _ _ us hl => match us, hl with | [_, _], _ => rfl
  have F20 := fun_mk (st := sAny) l20 c20 k20
  have b20 := F20.binds (ps := ["_law_hand"]) fun _ _ _ _ _ _ us hl => match us, hl with | [_], _ => rfl
  have F21 := fun_mk (st := sRef) l21 c21 k21
  have b21 := F21.binds (ps := ["_law_relation", "_law_word"]) fun _ _ _ _ _ _ us hl => match us, hl with | [_, _], _ => rfl
  have F22 := fun_mk (st := sLaw) l22 c22 k22
  have b22 := F22.binds (ps := ["_law_script"]) fun _ _ _ _ _ _ us hl => match us, hl with | [_], _ => rfl
  have R : RelTxt K mg C f4 := ⟨⟨pg, hd, po, sa⟩, nS, nR, ⟨mk, a4, i4, kc⟩, PySem.W.mg_of X G aC, ⟨tM, PySem.W.mg_of X G mp⟩⟩
  have RI : RelIs K C := ⟨rha, rhn, rht, rhm, by unfold PySem.W.kitOne; simp⟩
  have U : UndTxt K mg CU f5 := ⟨⟨⟨nm, q, NN, bs, bm, sn, sub, ab, col, dd, m0, m1, m2, m3, m5, xL, xV⟩, usa, uex, uty, ukc⟩, uno, a5, uti, PySem.W.mg_of X G aU⟩
  have RT : RefTxt K mg CU CC CN CR := ⟨PySem.W.mg_of X G aE, PySem.W.mg_of X G aN, PySem.W.mg_of X G aR, PySem.W.mg_of X G aU, PySem.W.mg_none_of X G z12, PySem.W.exm_ref eex ehd ety esu, ⟨uga, ugg, uex, uhd, uha, rhn, rht, uhm⟩, ⟨uga, ugg, uex, uhd⟩, uno,
    kitAny_cons (r := false) uiN (fun _ => kitAny_cons uiR (fun _ => kitAny_nil) fun z => (nomatch z)) fun z => (nomatch z), uiV, by unfold PySem.W.kitOne; simp⟩
  have TT : TabTxt K w mg dT := ⟨PySem.W.mg_of X G tT, ⟨es, nd, ⟨tl, tk, tlo⟩⟩, fun z m Tb hz => hz.cases (C := fun z _ Tb => ∃ t, PySem.W.nsIn K dT z = some (some (.ref t)) ∧ ∀ H, SqT K H t (Tb.map bv))
    ⟨t0, w0, sq_written u0 (by show 2 ≤ sizeLine; decide) (.cons ⟨_, rfl⟩ (.cons ⟨_, rfl⟩ .nil))⟩
    ⟨t1, w1, sq_written u1 (by show 2 ≤ sizeLine; decide) (.cons ⟨_, rfl⟩ (.cons ⟨_, rfl⟩ .nil))⟩
    ⟨t2, w2, sq_written u2 (by show 4 ≤ sizeLine; decide) (.cons ⟨_, rfl⟩ (.cons ⟨_, rfl⟩ (.cons ⟨_, rfl⟩ (.cons ⟨_, rfl⟩ .nil))))⟩
    ⟨t3, w3, sq_written u3 (by show 4 ≤ sizeLine; decide) (.cons ⟨_, rfl⟩ (.cons ⟨_, rfl⟩ (.cons ⟨_, rfl⟩ (.cons ⟨_, rfl⟩ .nil))))⟩
    ⟨t4, w4, sq_written u4 (by show 8 ≤ sizeLine; decide) (.cons ⟨_, rfl⟩ (.cons ⟨_, rfl⟩ (.cons ⟨_, rfl⟩ (.cons ⟨_, rfl⟩ (.cons ⟨_, rfl⟩ (.cons ⟨_, rfl⟩ (.cons ⟨_, rfl⟩ (.cons ⟨_, rfl⟩ .nil))))))))⟩
    ⟨t5, w5, sq_written u5 (by show 8 ≤ sizeLine; decide) (.cons ⟨_, rfl⟩ (.cons ⟨_, rfl⟩ (.cons ⟨_, rfl⟩ (.cons ⟨_, rfl⟩ (.cons ⟨_, rfl⟩ (.cons ⟨_, rfl⟩ (.cons ⟨_, rfl⟩ (.cons ⟨_, rfl⟩ .nil))))))))⟩⟩
  have NW : NotWords K dT := fun z hz => by
    simp only [List.mem_cons, List.not_mem_nil, or_false] at hz
    rcases hz with rfl | rfl | rfl | rfl | rfl
    · exact v0
    · exact v1
    · exact v2
    · exact v3
    · exact v4
  intro s1 a ns base H hn hS e0
  have CB : Cal P w K mg base 1 "is_below" f1 _ ["value", "limit"] spBelow := ⟨ok_below F1 T, PySem.W.mg_of X G a1, k1, b1⟩
  have CRq : Cal P w K mg base 2 "is_row" f2 _ ["value", "size"] (spRowQ K) := ⟨ok_rowq F2 T CB, PySem.W.mg_of X G a2, k2, b2⟩
  have CRs : Cal P w K mg base 3 "are_rows" f3 _ ["rows", "size"] (spRowsQ K) := ⟨ok_rowsq F3 T CRq, PySem.W.mg_of X G a3, k3, b3⟩
  have CN : Cal P w K mg base 1 "number_of" f6 _ ["bits"] (spNum K) := ⟨ok_num F6, PySem.W.mg_of X G a6, k6, b6⟩
  have CS : Cal P w K mg base 2 "spelled" f7 _ ["rows"] (spSpelled K) := ⟨ok_spell F7 T CN, PySem.W.mg_of X G a7, k7, b7⟩
  have CM : Cal P w K mg base 3 "made_row" f8 _ ["table", "rows"] (spMadeRow K) := ⟨ok_made F8 T CS, PySem.W.mg_of X G a8, k8, b8⟩
  have CP : Cal P w K mg base 1 "places_of" f10 _ ["table"] (spPlaces K) := ⟨ok_places F10 T, PySem.W.mg_of X G a10, k10, b10⟩
  have CTu : Cal P w K mg base 1 "tuples_of" f11 _ ["rows", "many"] (spTuples K) := ⟨ok_tuples F11 T, PySem.W.mg_of X G a11, k11, b11⟩
  have CD : Cal P w K mg base 1 "_law_draws" f13 _ ["_law_script", "_law_many"] (spDraws K) := ⟨ok_draws F13 T, PySem.W.mg_of X G a13, k13, b13⟩
  have CTake : Cal P w K mg base 1 "_law_take" f14 _ ["_law_hand", "_law_many"] spTake := ⟨ok_take F14 T, PySem.W.mg_of X G a14, k14, b14⟩
  have CAll : Cal P w K mg base 1 "_law_all_rows" f15 _ ["_law_many"] spAll := ⟨ok_all F15 T, PySem.W.mg_of X G a15, k15, b15⟩
  have CTab : Cal P w K mg base 1 "_law_table" f16 _ ["_law_word"] (spLTab K) := ⟨ok_ltab F16, PySem.W.mg_of X G a16, k16, b16⟩
  have CMd : Cal P w K mg base 1 "_law_made" f17 _ ["_law_table_here", "_law_rows"] (spLMade K) := ⟨ok_lmade F17 T, PySem.W.mg_of X G a17, k17, b17⟩
  have CCho : Cal P w K mg base 1 "_law_chosen" f18 _ ["_law_rows", "_law_table_here"] (spCho K) := ⟨ok_cho F18 T, PySem.W.mg_of X G a18, k18, b18⟩
  have CClo : Cal P w K mg base 2 "_law_closed" f19 _ ["_law_rows", "_law_table_here"] (spClo K) := ⟨ok_clo F19 T CAll CCho CMd, PySem.W.mg_of X G a19, k19, b19⟩
  have CAny : Cal P w K mg base 2 "_law_any" f20 _ ["_law_hand"] spAny := ⟨ok_any F20 T CAll CTake, PySem.W.mg_of X G a20, k20, b20⟩
  have CT : CalX P w K mg base 3 "table_of" f9 _ ["word"] (spTabOf K dT CU) := ⟨ok_tabof F9 T F5 b5 U TT, PySem.W.mg_of X G a9, k9, b9⟩
  have GI : FnOk P w K mg base CX0 4 f4 _ ["self", "size", "rows"] (spRel C) := ok_rel F4 T R CB CRs
  have CL : CalX P w K mg base 6 "least_kept" f12 _ ["relation", "word"] (spLeast K dT CU C) := ⟨ok_least F12 T CT CP CTu CM R GI b4, PySem.W.mg_of X G a12, k12, b12⟩
  have CRf : Cal P w K mg base 7 "_law_refusal" f21 _ ["_law_relation", "_law_word"] (spRef K dT CU C) := ⟨ok_ref F21 T RT CL, PySem.W.mg_of X G a21, k21, b21⟩
  exact run_at F22 scLaw ⟨rfl, by decide, by decide⟩ e0 (.of_eq rfl) (.cons (show RelV (.ref a) (.ref a) from rfl) .nil) rfl fun cdv hr => law_body T CD CAny CTake CAll CTab CClo CL CRf R RI GI b4 NW hr hS hn
end KW
end

set_option Elab.async false
set_option linter.all false
open PySem PySem.W PyProof.Rows
set_option maxRecDepth 100000 in
set_option maxHeartbeats 0 in
theorem PySem.Challenge.cw_eightcells_k44_least_kept_holds : PySem.Challenge.rw_eightcells_k44_least_kept.Holds := by
  w_on; o_law; k_head; (case hw => w_witness2)
  k_fill
  refine KW.walk_at rfl rfl (fun w h Y => PySem.W.kIn_of Y) fun w mg fa h KX G hmg => ?_
  refine' KW.all_mk KX G hmg ?aC ?aU ?aE ?aN ?aR ?a1 ?l1 ?c1 ?k1 ?a2 ?l2 ?c2 ?k2 ?a3 ?l3 ?c3 ?k3 ?a4 ?l4 ?c4 ?k4 ?a5 ?l5 ?c5 ?k5 ?a6 ?l6 ?c6 ?k6 ?a7 ?l7 ?c7 ?k7 ?a8 ?l8 ?c8 ?k8 ?a9 ?l9 ?c9 ?k9 ?a10 ?l10 ?c10 ?k10 ?a11 ?l11 ?c11 ?k11 ?a12 ?l12 ?c12 ?k12 ?a13 ?l13 ?c13 ?k13 ?a14 ?l14 ?c14 ?k14 ?a15 ?l15 ?c15 ?k15 ?a16 ?l16 ?c16 ?k16 ?a17 ?l17 ?c17 ?k17 ?a18 ?l18 ?c18 ?k18 ?a19 ?l19 ?c19 ?k19 ?a20 ?l20 ?c20 ?k20 ?a21 ?l21 ?c21 ?k21 ?a22 ?l22 ?c22 ?k22 ?i4 ?pg ?hd ?po ?sa ?mk ?kc ?nS ?nR ?rha ?rhn ?rht ?rhm ?mp ?xL ?xV ?usa ?uex ?uty ?ukc ?uno ?uti ?uga ?ugg ?uhd ?uha ?uhm ?eex ?ehd ?ety ?esu ?uiN ?uiR ?uiV ?tT ?tl ?tk ?tlo ?w0 ?u0 ?w1 ?u1 ?w2 ?u2 ?w3 ?u3 ?w4 ?u4 ?w5 ?u5 ?v0 ?v1 ?v2 ?v3 ?v4 ?z0 ?z1 ?z2 ?z3 ?z4 ?z5 ?z6 ?z7 ?z8 ?z9 ?z10 ?z11 ?z12
  (case aC => k_is)
  (case aU => k_is)
  (case aE => k_is)
  (case aN => k_is)
  (case aR => k_is)
  (case a1 => k_is)
  (case l1 => k_is)
  (case c1 => k_is)
  (case k1 => k_is)
  (case a2 => k_is)
  (case l2 => k_is)
  (case c2 => k_is)
  (case k2 => k_is)
  (case a3 => k_is)
  (case l3 => k_is)
  (case c3 => k_is)
  (case k3 => k_is)
  (case a4 => k_is)
  (case l4 => k_is)
  (case c4 => k_is)
  (case k4 => k_is)
  (case a5 => k_is)
  (case l5 => k_is)
  (case c5 => k_is)
  (case k5 => k_is)
  (case a6 => k_is)
  (case l6 => k_is)
  (case c6 => k_is)
  (case k6 => k_is)
  (case a7 => k_is)
  (case l7 => k_is)
  (case c7 => k_is)
  (case k7 => k_is)
  (case a8 => k_is)
  (case l8 => k_is)
  (case c8 => k_is)
  (case k8 => k_is)
  (case a9 => k_is)
  (case l9 => k_is)
  (case c9 => k_is)
  (case k9 => k_is)
  (case a10 => k_is)
  (case l10 => k_is)
  (case c10 => k_is)
  (case k10 => k_is)
  (case a11 => k_is)
  (case l11 => k_is)
  (case c11 => k_is)
  (case k11 => k_is)
  (case a12 => k_is)
  (case l12 => k_is)
  (case c12 => k_is)
  (case k12 => k_is)
  (case a13 => k_is)
  (case l13 => k_is)
  (case c13 => k_is)
  (case k13 => k_is)
  (case a14 => k_is)
  (case l14 => k_is)
  (case c14 => k_is)
  (case k14 => k_is)
  (case a15 => k_is)
  (case l15 => k_is)
  (case c15 => k_is)
  (case k15 => k_is)
  (case a16 => k_is)
  (case l16 => k_is)
  (case c16 => k_is)
  (case k16 => k_is)
  (case a17 => k_is)
  (case l17 => k_is)
  (case c17 => k_is)
  (case k17 => k_is)
  (case a18 => k_is)
  (case l18 => k_is)
  (case c18 => k_is)
  (case k18 => k_is)
  (case a19 => k_is)
  (case l19 => k_is)
  (case c19 => k_is)
  (case k19 => k_is)
  (case a20 => k_is)
  (case l20 => k_is)
  (case c20 => k_is)
  (case k20 => k_is)
  (case a21 => k_is)
  (case l21 => k_is)
  (case c21 => k_is)
  (case k21 => k_is)
  (case a22 => k_is)
  (case l22 => k_is)
  (case c22 => k_is)
  (case k22 => k_is)
  (case i4 => k_is)
  (case pg => k_is)
  (case hd => k_is)
  (case po => k_is)
  (case sa => k_is)
  (case mk => k_is)
  (case kc => k_is)
  (case nS => k_is)
  (case nR => k_is)
  (case rha => k_is)
  (case rhn => k_is)
  (case rht => k_is)
  (case rhm => k_is)
  (case mp => k_is)
  (case xL => k_is)
  (case xV => decide +kernel)
  (case usa => k_is)
  (case uex => k_is)
  (case uty => k_is)
  (case ukc => k_is)
  (case uno => k_is)
  (case uti => k_is)
  (case uga => k_is)
  (case ugg => k_is)
  (case uhd => k_is)
  (case uha => k_is)
  (case uhm => k_is)
  (case eex => k_is)
  (case ehd => k_is)
  (case ety => k_is)
  (case esu => k_is)
  (case uiN => first | k_is | kit_is | rfl | decide +kernel)
  (case uiR => first | k_is | kit_is | rfl | decide +kernel)
  (case uiV => first | k_is | kit_is | rfl | decide +kernel)
  (case tT => k_is)
  (case tl => k_is)
  (case tk => exact ⟨⟨_, _, rfl, rfl⟩, ⟨_, _, rfl, rfl⟩, ⟨_, _, rfl, rfl⟩, ⟨_, _, rfl, rfl⟩, ⟨_, _, rfl, rfl⟩, ⟨_, _, rfl, rfl⟩, trivial⟩)
  (case tlo => first | rfl | decide +kernel)
  (case w0 => k_is)
  (case u0 => k_is)
  (case w1 => k_is)
  (case u1 => k_is)
  (case w2 => k_is)
  (case u2 => k_is)
  (case w3 => k_is)
  (case u3 => k_is)
  (case w4 => k_is)
  (case u4 => k_is)
  (case w5 => k_is)
  (case u5 => k_is)
  (case v0 => k_is)
  (case v1 => k_is)
  (case v2 => k_is)
  (case v3 => k_is)
  (case v4 => k_is)
  (case z0 => k_is)
  (case z1 => k_is)
  (case z2 => k_is)
  (case z3 => k_is)
  (case z4 => k_is)
  (case z5 => k_is)
  (case z6 => k_is)
  (case z7 => k_is)
  (case z8 => k_is)
  (case z9 => k_is)
  (case z10 => k_is)
  (case z11 => k_is)
  (case z12 => k_is)
