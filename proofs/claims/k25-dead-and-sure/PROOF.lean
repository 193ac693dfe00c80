import PyProof.Rows.All
import Wide.All
import OpenK.AllK
import Wide.FinOn
import KE.KStateDown
import KE.GoesNew
import KE.GoesZip
import KE.GoesMore
import Lean
import HandS.ForMost
import HandS.Exc
import HandS.Defaults
import HandS.Codes
import HandS.IsInst
import HandS.WideBits
import HandS.Strs
import HandS.StrMore
import HandS.Flow
import HandS.Zip
import HandS.Head0
import HandS.Head1
import HandS.Head2
import HandS.HeadEnd
import HandS.HeadHook1
import HandS.HeadHook2
import HandS.SetFor
import HandS.Replace
import PySem.Challenge.RW_looprank_k25_dead_and_sure
set_option linter.all false
/-! The plain law: graphs over small numbers, sets as bits. No program in sight. -/
namespace Lr

/-! ### lists without doubles -/
theorem nodup_sub : forall {l m : List Nat}, l.Nodup → (∀ x ∈ l, x ∈ m) → l.length ≤ m.length
  | [], m, _, _ => Nat.zero_le _
  | a :: l, m, hn, h => by
    obtain ⟨h1, h2⟩ := List.nodup_cons.mp hn
    have ha : a ∈ m := h a (List.mem_cons_self ..)
    have ih := nodup_sub (l := l) (m := m.erase a) h2 fun x hx => by
      have hxa : x ≠ a := fun e => h1 (e ▸ hx)
      exact (List.mem_erase_of_ne hxa).mpr (h x (List.mem_cons_of_mem _ hx))
    rw [List.length_erase_of_mem ha] at ih
    have hp : 0 < m.length := List.length_pos_of_mem ha
    show l.length + 1 ≤ m.length
    omega
theorem nodup_len {l : List Nat} {n : Nat} (hn : l.Nodup) (h : ∀ x ∈ l, x < n) : l.length ≤ n := by
  have := nodup_sub (m := List.range n) hn fun x hx => List.mem_range.mpr (h x hx)
  rwa [List.length_range] at this
theorem nodup_all {l m : List Nat} (hl : l.Nodup) (h : ∀ x ∈ l, x ∈ m) (e : m.length ≤ l.length) : ∀ x ∈ m, x ∈ l := by
  intro x hx
  by_cases hx' : x ∈ l
  · exact hx'
  · have := nodup_sub (l := l) (m := m.erase x) hl fun y hy => (List.mem_erase_of_ne (fun e : y = x => hx' (e ▸ hy))).mpr (h y hy)
    rw [List.length_erase_of_mem hx] at this
    have hp : 0 < m.length := List.length_pos_of_mem hx
    omega
theorem nodup_snoc {l : List Nat} {a : Nat} (hn : l.Nodup) (h : a ∉ l) : (l ++ [a]).Nodup := by
  refine List.nodup_append.mpr ⟨hn, by simp, ?_⟩
  intro x hx y hy e
  have : y = a := by simpa using hy
  exact h (this ▸ e ▸ hx)
theorem pw_nodup {l : List Nat} (h : l.Pairwise (· < ·)) : l.Nodup := h.imp fun h => Nat.ne_of_lt h

/-! ### bits -/
theorem bit_lt {b n r : Nat} (h : b < 2 ^ n) (hr : b.testBit r = true) : r < n := by
  by_cases q : r < n
  · exact q
  · have : b < 2 ^ r := Nat.lt_of_lt_of_le h (Nat.pow_le_pow_right (by decide) (by omega))
    rw [Nat.testBit_lt_two_pow this] at hr
    cases hr
theorem lt_of_bits {b n : Nat} (h : ∀ r, b.testBit r = true → r < n) : b < 2 ^ n := by
  refine Nat.lt_pow_two_of_testBit b fun i hi => ?_
  cases q : b.testBit i with
  | false => rfl
  | true => exact absurd (h i q) (by omega)
theorem bits_eq {a b : Nat} (h : ∀ r, a.testBit r = true ↔ b.testBit r = true) : a = b := by
  refine Nat.eq_of_testBit_eq fun i => ?_
  have := h i
  cases p : a.testBit i <;> cases q : b.testBit i <;> simp [p, q] at this ⊢
theorem full_bit (n r : Nat) : (2 ^ n - 1).testBit r = true ↔ r < n := by
  rw [Nat.testBit_two_pow_sub_one, decide_eq_true_iff]
theorem one_bit (n r : Nat) : (2 ^ n).testBit r = true ↔ n = r := by
  rw [Nat.testBit_two_pow, decide_eq_true_iff]
theorem or_bit (a b r : Nat) : (a ||| b).testBit r = true ↔ a.testBit r = true ∨ b.testBit r = true := by
  rw [Nat.testBit_or, Bool.or_eq_true]
theorem and_bit (a b r : Nat) : (a &&& b).testBit r = true ↔ a.testBit r = true ∧ b.testBit r = true := by
  rw [Nat.testBit_and, Bool.and_eq_true]
theorem exists_bits (P : Nat → Prop) : ∀ n : Nat, ∃ b : Nat, ∀ r, b.testBit r = true ↔ r < n ∧ P r
  | 0 => ⟨0, fun r => by simp⟩
  | n + 1 => by
    obtain ⟨b, hb⟩ := exists_bits P n
    by_cases hp : P n
    · refine ⟨b ||| 2 ^ n, fun r => ?_⟩
      rw [or_bit, hb, one_bit]
      constructor
      · rintro (⟨h1, h2⟩ | rfl)
        · exact ⟨by omega, h2⟩
        · exact ⟨by omega, hp⟩
      · rintro ⟨h1, h2⟩
        by_cases e : r = n
        · exact .inr e.symm
        · exact .inl ⟨by omega, h2⟩
    · refine ⟨b, fun r => ?_⟩
      rw [hb]
      constructor
      · rintro ⟨h1, h2⟩
        exact ⟨by omega, h2⟩
      · rintro ⟨h1, h2⟩
        refine ⟨?_, h2⟩
        by_cases e : r = n
        · exact absurd (e ▸ h2) hp
        · omega
theorem sub_le {a b : Nat} (h : ∀ r, a.testBit r = true → b.testBit r = true) : a ≤ b := by
  have e : a &&& b = a := bits_eq fun r => by
    rw [and_bit]
    exact ⟨fun x => x.1, fun x => ⟨x, h r x⟩⟩
  rw [← e]
  exact Nat.and_le_right
theorem sub_or {a b : Nat} : (a ||| b = b) ↔ ∀ r, a.testBit r = true → b.testBit r = true := by
  constructor
  · intro e r h
    rw [← e, or_bit]
    exact .inl h
  · intro h
    refine bits_eq fun r => ?_
    rw [or_bit]
    exact ⟨fun x => x.elim (h r) id, .inr⟩
theorem add_bit {s x : Nat} (h : s.testBit x = false) (r : Nat) : (2 ^ x + s).testBit r = true ↔ r = x ∨ s.testBit r = true := by
  have e : 2 ^ x + s = 2 ^ x ||| s := by
    have h1 : s = 2 ^ (x + 1) * (s / 2 ^ (x + 1)) + s % 2 ^ (x + 1) := (Nat.div_add_mod s _).symm
    have hm : s % 2 ^ (x + 1) < 2 ^ x := by
      have h2 : s % 2 ^ (x + 1) < 2 ^ (x + 1) := Nat.mod_lt _ (Nat.pow_pos (by decide))
      refine Nat.lt_pow_two_of_testBit _ fun i hi => ?_
      by_cases e : i = x
      · subst e
        rw [Nat.testBit_mod_two_pow, h, Bool.and_false]
      · rw [Nat.testBit_mod_two_pow, decide_eq_false (by omega), Bool.false_and]
    have h3 : 2 ^ x + s % 2 ^ (x + 1) < 2 ^ (x + 1) := by
      rw [Nat.pow_succ]
      rw [Nat.pow_succ] at hm
      omega
    refine Nat.eq_of_testBit_eq fun i => ?_
    rw [Nat.testBit_or]
    have e2 : 2 ^ x + s = 2 ^ (x + 1) * (s / 2 ^ (x + 1)) + (2 ^ x + s % 2 ^ (x + 1)) := by omega
    rw [e2, Nat.testBit_two_pow_mul_add _ h3]
    by_cases hi : i < x + 1
    · rw [if_pos hi]
      by_cases ei : i = x
      · subst ei
        rw [Nat.testBit_two_pow_add_eq, Nat.testBit_lt_two_pow hm, Nat.testBit_two_pow, decide_eq_true rfl]
        rfl
      · rw [Nat.testBit_two_pow_add_gt (by omega), Nat.testBit_mod_two_pow, decide_eq_true hi, Bool.true_and, Nat.testBit_two_pow, decide_eq_false (fun z => ei z.symm), Bool.false_or]
    · rw [if_neg hi, Nat.testBit_two_pow, decide_eq_false (by omega), Bool.false_or]
      rw [Nat.testBit_div_two_pow]
      congr 1
      omega
  rw [e, or_bit, one_bit]
  exact ⟨fun z => z.imp Eq.symm id, fun z => z.imp Eq.symm id⟩
theorem sum_bits : ∀ {l : List Nat}, l.Nodup → ∀ r, ((l.map fun x => 2 ^ x).sum).testBit r = true ↔ r ∈ l
  | [], _, r => by simp
  | a :: l, hn, r => by
    obtain ⟨h1, h2⟩ := List.nodup_cons.mp hn
    have ih := sum_bits h2
    rw [List.map_cons, List.sum_cons, add_bit, ih, List.mem_cons]
    cases q : ((l.map fun x => 2 ^ x).sum).testBit a with
    | false => rfl
    | true => exact absurd ((ih a).mp q) h1

/-! ### machines -/
/-- for each room the rooms to which its letters lead -/
abbrev Stp := List (List Nat)
structure WF (S : Stp) (k : Nat) : Prop where
  n1 : 1 ≤ S.length
  n8 : S.length ≤ 8
  k1 : 1 ≤ k
  k3 : k ≤ 3
  row : ∀ row ∈ S, row.length = k
  lt : ∀ row ∈ S, ∀ x ∈ row, x < S.length
def Edge (S : Stp) (r g : Nat) : Prop := ∃ row, S[r]? = some row ∧ g ∈ row
/-- from r one comes to g through allowed rooms -/
inductive Rch (S : Stp) (A : Nat) : Nat → Nat → Prop
  | refl (r : Nat) : Rch S A r r
  | snoc {r x g : Nat} : Rch S A r x → Edge S x g → A.testBit g = true → Rch S A r g
/-- by one letter at least -/
def Plus (S : Stp) (A : Nat) (r g : Nat) : Prop := ∃ x, Edge S r x ∧ A.testBit x = true ∧ Rch S A x g
section
variable {S : Stp} {A B : Nat} {r x g k : Nat}
theorem Edge.lt (W : WF S k) (h : Edge S r g) : g < S.length := by
  obtain ⟨row, e, m⟩ := h
  exact W.lt row (List.mem_of_getElem? e) g m
theorem Edge.src (h : Edge S r g) : r < S.length := by
  obtain ⟨row, e, m⟩ := h
  exact (List.getElem?_eq_some_iff.mp e).1
theorem Edge.some (W : WF S k) (h : r < S.length) : ∃ g, Edge S r g := by
  have e : S[r]? = .some S[r] := List.getElem?_eq_getElem h
  have hl := W.row _ (List.mem_of_getElem? e)
  have h1 := W.k1
  cases q : S[r] with
  | nil =>
    rw [q] at hl
    simp at hl
    omega
  | cons y ys => exact ⟨y, _, e, by rw [q]; exact List.mem_cons_self ..⟩
theorem Rch.trans (h1 : Rch S A r x) (h2 : Rch S A x g) : Rch S A r g := by
  induction h2 with
  | refl => exact h1
  | snoc _ e a ih => exact .snoc ih e a
theorem Rch.head (e : Edge S r x) (a : A.testBit x = true) (h : Rch S A x g) : Rch S A r g := Rch.trans (.snoc (.refl r) e a) h
theorem Rch.mono (hs : ∀ y, A.testBit y = true → B.testBit y = true) (h : Rch S A r g) : Rch S B r g := by
  induction h with
  | refl => exact .refl _
  | snoc _ e a ih => exact .snoc ih e (hs _ a)
theorem Rch.tgt (h : Rch S A r g) : g = r ∨ A.testBit g = true := by
  cases h with
  | refl => exact .inl rfl
  | snoc _ _ a => exact .inr a
theorem Plus.mono (hs : ∀ y, A.testBit y = true → B.testBit y = true) (h : Plus S A r g) : Plus S B r g := by
  obtain ⟨x, e, a, h⟩ := h
  exact ⟨x, e, hs _ a, h.mono hs⟩
theorem Plus.rch (h : Plus S A r g) : Rch S A r g := by
  obtain ⟨x, e, a, h⟩ := h
  exact Rch.head e a h
theorem Plus.tgt (h : Plus S A r g) : A.testBit g = true := by
  obtain ⟨x, e, a, h⟩ := h
  rcases h.tgt with q | q
  · exact q ▸ a
  · exact q
theorem Plus.then (h : Plus S A r x) (h2 : Rch S A x g) : Plus S A r g := by
  obtain ⟨y, e, a, h⟩ := h
  exact ⟨y, e, a, h.trans h2⟩
theorem Plus.snoc (h : Plus S A r x) (e : Edge S x g) (a : A.testBit g = true) : Plus S A r g := h.then (.snoc (.refl _) e a)
theorem Rch.plus (h : Rch S A r x) (p : Plus S A x g) : Plus S A r g := by
  induction h with
  | refl => exact p
  | snoc _ e a ih => exact ih ⟨_, e, a, p.rch⟩
theorem Plus.trans (h : Plus S A r x) (p : Plus S A x g) : Plus S A r g := h.then p.rch
theorem Rch.cases' (h : Rch S A r g) : r = g ∨ Plus S A r g := by
  induction h with
  | refl => exact .inl rfl
  | snoc h1 e a ih =>
    rcases ih with q | q
    · exact .inr ⟨_, q ▸ e, a, .refl _⟩
    · exact .inr (q.snoc e a)
theorem Plus.lt (W : WF S k) (h : Plus S A r g) : g < S.length := by
  obtain ⟨x, e, a, h⟩ := h
  cases h with
  | refl => exact e.lt W
  | snoc _ e' _ => exact e'.lt W
theorem Rch.lt (W : WF S k) (h : Rch S A r g) (hr : r < S.length) : g < S.length := by
  cases h with
  | refl => exact hr
  | snoc _ e' _ => exact e'.lt W
end
/-- a set is a loop -/
structure Loop (S : Stp) (L : Nat) : Prop where
  ne : ∃ r, L.testBit r = true
  all : ∀ r g, L.testBit r = true → L.testBit g = true → Plus S L r g
theorem Loop.lt {S : Stp} {L k r : Nat} (W : WF S k) (h : Loop S L) (hr : L.testBit r = true) : r < S.length := (h.all r r hr hr).lt W
theorem Loop.bd {S : Stp} {L k : Nat} (W : WF S k) (h : Loop S L) : L < 2 ^ S.length := lt_of_bits fun _ hr => h.lt W hr
/-- p: the greatest loop of allowed rooms that has r -/
def Scc (S : Stp) (A r p : Nat) : Prop := ∀ g, p.testBit g = true ↔ Plus S A r g ∧ Plus S A g r
/-- the parts of the allowed rooms -/
structure Parts (S : Stp) (A : Nat) (ps : List Nat) : Prop where
  nd : ps.Nodup
  mem : ∀ p, p ∈ ps ↔ ∃ r, A.testBit r = true ∧ Plus S A r r ∧ Scc S A r p
section
variable {S : Stp} {A r p L g : Nat}
theorem scc_in (h : Scc S A r p) : ∀ {x g : Nat}, Rch S A x g → Plus S A r x → Plus S A g r → Rch S p x g := by
  intro x g hx
  induction hx with
  | refl => exact fun _ _ => .refl _
  | @snoc y g h1 e a ih =>
    intro p1 p2
    have py : Plus S A y r := ⟨_, e, a, p2.rch⟩
    exact .snoc (ih p1 py) e ((h _).mpr ⟨(p1.then h1).snoc e a, p2⟩)
theorem scc_loop (h : Scc S A r p) (hr : Plus S A r r) : Loop S p where
  ne := ⟨r, (h r).mpr ⟨hr, hr⟩⟩
  all := fun a b ha hb => by
    obtain ⟨a1, a2⟩ := (h a).mp ha
    obtain ⟨b1, b2⟩ := (h b).mp hb
    obtain ⟨x, e, ax, hx⟩ := a2.trans b1
    have rx : Plus S A r x := a1.snoc e ax
    have xr : Plus S A x r := hx.plus b2
    exact ⟨x, e, (h x).mpr ⟨rx, xr⟩, scc_in h hx rx b2⟩
theorem loop_in_scc (l : Loop S L) (hs : ∀ y, L.testBit y = true → A.testBit y = true) (hg : L.testBit g = true) (h : Scc S A g p) : ∀ y, L.testBit y = true → p.testBit y = true :=
  fun y hy => (h y).mpr ⟨(l.all g y hg hy).mono hs, (l.all y g hy hg).mono hs⟩
theorem scc_exists {k : Nat} (W : WF S k) (A r : Nat) : ∃ p, Scc S A r p := by
  obtain ⟨b, hb⟩ := exists_bits (fun g => Plus S A r g ∧ Plus S A g r) S.length
  refine ⟨b, fun g => ?_⟩
  rw [hb]
  exact ⟨fun z => z.2, fun z => ⟨z.1.lt W, z⟩⟩
theorem scc_same {q : Nat} (h : Scc S A r p) (hr : p.testBit g = true) (h2 : Scc S A g q) : p = q := by
  obtain ⟨a, b⟩ := (h g).mp hr
  refine bits_eq fun y => ?_
  rw [h, h2]
  exact ⟨fun z => ⟨b.trans z.1, z.2.trans a⟩, fun z => ⟨a.trans z.1, z.2.trans b⟩⟩
theorem Parts.loop {ps : List Nat} (h : Parts S A ps) (hp : p ∈ ps) : Loop S p := by
  obtain ⟨r, _, h2, h3⟩ := (h.mem p).mp hp
  exact scc_loop h3 h2
theorem Parts.sub {ps : List Nat} (h : Parts S A ps) (hp : p ∈ ps) : ∀ y, p.testBit y = true → A.testBit y = true := by
  obtain ⟨r, _, h2, h3⟩ := (h.mem p).mp hp
  exact fun y hy => ((h3 y).mp hy).1.tgt
/-- a loop has one part: itself -/
theorem Parts.of_loop {ps : List Nat} (l : Loop S L) (h : Parts S L ps) : ps = [L] := by
  have one : ∀ q, q ∈ ps → q = L := fun q hq => by
    obtain ⟨r, h1, h2, h3⟩ := (h.mem q).mp hq
    refine bits_eq fun y => ⟨h.sub hq y, loop_in_scc l (fun _ z => z) h1 h3 y⟩
  obtain ⟨r, hr⟩ := l.ne
  have hL : L ∈ ps := (h.mem L).mpr ⟨r, hr, l.all r r hr hr, fun y => ⟨fun z => ⟨l.all r y hr z, l.all y r z hr⟩, fun z => z.1.tgt⟩⟩
  match ps, h.nd, one, hL with
  | [q], _, one, _ => rw [one q (List.mem_cons_self ..)]
  | q :: q' :: t, nd, one, _ =>
    have e1 := one q (List.mem_cons_self ..)
    have e2 := one q' (List.mem_cons_of_mem _ (List.mem_cons_self ..))
    have := (List.nodup_cons.mp nd).1
    exact absurd (by rw [e1, e2]; exact List.mem_cons_self ..) this
end
/-! ### ranks -/
def Top (R : List Nat) (L t : Nat) : Prop := (∃ r, L.testBit r = true ∧ R[r]? = some t) ∧ ∀ r x, L.testBit r = true → R[r]? = some x → x ≤ t
theorem Top.one {R : List Nat} {L t u : Nat} (h : Top R L t) (h' : Top R L u) : t = u := by
  obtain ⟨⟨r, a, b⟩, c⟩ := h
  obtain ⟨⟨r', a', b'⟩, c'⟩ := h'
  exact Nat.le_antisymm (c' r t a b) (c r' u a' b')
theorem Top.ex {R : List Nat} {L n : Nat} (hn : ∃ r, L.testBit r = true) (hl : ∀ r, L.testBit r = true → r < n) (hR : R.length = n) : ∃ t, Top R L t := by
  -- the greatest of the first m rooms of L
  have : ∀ m, m ≤ n → (∃ r, r < m ∧ L.testBit r = true) → ∃ t, (∃ r, L.testBit r = true ∧ R[r]? = some t) ∧ ∀ r x, r < m → L.testBit r = true → R[r]? = some x → x ≤ t := by
    intro m
    induction m with
    | zero =>
      rintro _ ⟨r, h, _⟩
      omega
    | succ m ih =>
      intro hm hr
      have hmR : m < R.length := by omega
      by_cases hL : L.testBit m = true
      · by_cases h1 : ∃ r, r < m ∧ L.testBit r = true
        · obtain ⟨t, ⟨r, a, b⟩, c⟩ := ih (by omega) h1
          by_cases hle : R[m] ≤ t
          · refine ⟨t, ⟨r, a, b⟩, fun r' x h1 h2 h3 => ?_⟩
            by_cases e : r' = m
            · subst e
              rw [List.getElem?_eq_getElem hmR] at h3
              cases h3
              exact hle
            · exact c r' x (by omega) h2 h3
          · refine ⟨R[m], ⟨m, hL, List.getElem?_eq_getElem hmR⟩, fun r' x h1 h2 h3 => ?_⟩
            by_cases e : r' = m
            · subst e
              rw [List.getElem?_eq_getElem hmR] at h3
              cases h3
              exact Nat.le_refl _
            · have := c r' x (by omega) h2 h3
              omega
        · refine ⟨R[m], ⟨m, hL, List.getElem?_eq_getElem hmR⟩, fun r' x h2 h3 h4 => ?_⟩
          by_cases e : r' = m
          · subst e
            rw [List.getElem?_eq_getElem hmR] at h4
            cases h4
            exact Nat.le_refl _
          · exact absurd ⟨r', by omega, h3⟩ h1
      · obtain ⟨r, h1, h2⟩ := hr
        have e : r ≠ m := fun e => hL (e ▸ h2)
        obtain ⟨t, a, c⟩ := ih (by omega) ⟨r, by omega, h2⟩
        refine ⟨t, a, fun r' x h1 h2 h3 => ?_⟩
        have e' : r' ≠ m := fun e => hL (e ▸ h2)
        exact c r' x (by omega) h2 h3
  obtain ⟨r, hr⟩ := hn
  obtain ⟨t, a, c⟩ := this n (Nat.le_refl _) ⟨r, hl r hr, hr⟩
  exact ⟨t, a, fun r x h1 h2 => c r x (hl r h1) h1 h2⟩
/-- L is a loop of the wanted sort -/
def Sort' (S : Stp) (R : List Nat) (wanted : Bool) (L : Nat) : Prop := Loop S L ∧ ∃ t, Top R L t ∧ decide (t % 2 = 0) = wanted
/-- the rooms whose rank is not above t -/
def UpTo (R : List Nat) (n t A : Nat) : Prop := ∀ r, A.testBit r = true ↔ r < n ∧ ∃ x, R[r]? = some x ∧ x ≤ t
/-- g is on a loop of the wanted sort: by the parts of a rank -/
theorem on_loops {S : Stp} {R : List Nat} {k : Nat} {wanted : Bool} (W : WF S k) (hR : R.length = S.length) (g : Nat) :
    (∃ L, Sort' S R wanted L ∧ L.testBit g = true) ↔ ∃ t, t ∈ R ∧ decide (t % 2 = 0) = wanted ∧ ∃ A ps p, UpTo R S.length t A ∧ Parts S A ps ∧ p ∈ ps ∧ Top R p t ∧ p.testBit g = true := by
  constructor
  · rintro ⟨L, ⟨l, t, ht, hw⟩, hg⟩
    have htR : t ∈ R := by
      obtain ⟨⟨r, _, e⟩, _⟩ := ht
      exact List.mem_of_getElem? e
    obtain ⟨A, hA⟩ := exists_bits (fun r => ∃ x, R[r]? = some x ∧ x ≤ t) S.length
    have hLA : ∀ y, L.testBit y = true → A.testBit y = true := fun y hy => by
      have hy' := l.lt W hy
      have e : R[y]? = some R[y] := List.getElem?_eq_getElem (by omega)
      exact (hA y).mpr ⟨hy', _, e, ht.2 y _ hy e⟩
    have hgg : Plus S A g g := (l.all g g hg hg).mono hLA
    obtain ⟨p, hp⟩ := scc_exists W A g
    -- the parts exist as a list
    have exl : ∃ ps, Parts S A ps := by
      have : ∀ m, ∃ ps : List Nat, ps.Nodup ∧ ∀ p, p ∈ ps ↔ ∃ r, r < m ∧ A.testBit r = true ∧ Plus S A r r ∧ Scc S A r p := by
        intro m
        induction m with
        | zero => exact ⟨[], List.nodup_nil, fun p => ⟨fun z => (nomatch z), fun ⟨_, z, _⟩ => (nomatch z)⟩⟩
        | succ m ih =>
          obtain ⟨ps, nd, hm⟩ := ih
          by_cases hc : A.testBit m = true ∧ Plus S A m m
          · obtain ⟨q, hq⟩ := scc_exists W A m
            by_cases hin : q ∈ ps
            · refine ⟨ps, nd, fun p => ?_⟩
              rw [hm]
              constructor
              · rintro ⟨r, a, b⟩
                exact ⟨r, by omega, b⟩
              · rintro ⟨r, a, b⟩
                by_cases e : r = m
                · subst e
                  have : p = q := bits_eq fun y => by rw [b.2.2 y, hq y]
                  subst this
                  exact (hm p).mp hin
                · exact ⟨r, by omega, b⟩
            · refine ⟨ps ++ [q], nodup_snoc nd hin, fun p => ?_⟩
              rw [List.mem_append, hm, List.mem_singleton]
              constructor
              · rintro (⟨r, a, b⟩ | rfl)
                · exact ⟨r, by omega, b⟩
                · exact ⟨m, by omega, hc.1, hc.2, hq⟩
              · rintro ⟨r, a, b⟩
                by_cases e : r = m
                · subst e
                  exact .inr (bits_eq fun y => by rw [b.2.2 y, hq y])
                · exact .inl ⟨r, by omega, b⟩
          · refine ⟨ps, nd, fun p => ?_⟩
            rw [hm]
            constructor
            · rintro ⟨r, a, b⟩
              exact ⟨r, by omega, b⟩
            · rintro ⟨r, a, b⟩
              by_cases e : r = m
              · subst e
                exact absurd ⟨b.1, b.2.1⟩ hc
              · exact ⟨r, by omega, b⟩
      obtain ⟨ps, nd, hm⟩ := this S.length
      refine ⟨ps, nd, fun p => ?_⟩
      rw [hm]
      constructor
      · rintro ⟨r, _, b⟩
        exact ⟨r, b⟩
      · rintro ⟨r, b⟩
        exact ⟨r, ((hA r).mp b.1).1, b⟩
    obtain ⟨ps, hps⟩ := exl
    have hpp : p ∈ ps := (hps.mem p).mpr ⟨g, hLA g hg, hgg, hp⟩
    have hLp := loop_in_scc l hLA hg hp
    refine ⟨t, htR, hw, A, ps, p, hA, hps, hpp, ⟨?_, ?_⟩, hLp g hg⟩
    · obtain ⟨⟨r, a, b⟩, _⟩ := ht
      exact ⟨r, hLp r a, b⟩
    · intro r x h1 h2
      obtain ⟨_, x', e, h3⟩ := (hA r).mp (hps.sub hpp r h1)
      rw [h2] at e
      cases e
      exact h3
  · rintro ⟨t, _, hw, A, ps, p, hA, hps, hp, ht, hg⟩
    exact ⟨p, ⟨hps.loop hp, t, ht, hw⟩, hg⟩
/-- from each room some loop can be come to -/
theorem some_loop {S : Stp} {k r : Nat} (W : WF S k) (hr : r < S.length) : ∃ L, Loop S L ∧ ∀ g, L.testBit g = true → Rch S (2 ^ S.length - 1) r g := by
  have hB : ∃ B : Nat → Nat, ∀ x g, (B x).testBit g = true ↔ g < S.length ∧ Rch S (2 ^ S.length - 1) x g :=
    ⟨fun x => (exists_bits (fun g => Rch S (2 ^ S.length - 1) x g) S.length).choose, fun x => (exists_bits (fun g => Rch S (2 ^ S.length - 1) x g) S.length).choose_spec⟩
  obtain ⟨B, hB⟩ := hB
  have hmin : ∀ N x, B x ≤ N → Rch S (2 ^ S.length - 1) r x → ∃ x, Rch S (2 ^ S.length - 1) r x ∧ ∀ y, Rch S (2 ^ S.length - 1) r y → B x ≤ B y := by
    intro N
    induction N with
    | zero =>
      intro x h1 h2
      exact ⟨x, h2, fun y _ => by omega⟩
    | succ N ih =>
      intro x h1 h2
      by_cases h : ∃ y, Rch S (2 ^ S.length - 1) r y ∧ B y < B x
      · obtain ⟨y, h3, h4⟩ := h
        exact ih y (by omega) h3
      · refine ⟨x, h2, fun y hy => ?_⟩
        by_cases h5 : B x ≤ B y
        · exact h5
        · exact absurd ⟨y, hy, by omega⟩ h
  obtain ⟨x, hx, mx⟩ := hmin (B r) r (Nat.le_refl _) (.refl r)
  have hxl : x < S.length := hx.lt W hr
  have same : ∀ y, Rch S (2 ^ S.length - 1) x y → B y = B x := fun y hy => by
    have h1 : B y ≤ B x := sub_le fun g hg => by
      obtain ⟨a, b⟩ := (hB y g).mp hg
      exact (hB x g).mpr ⟨a, hy.trans b⟩
    have h2 := mx y (hx.trans hy)
    omega
  have clo : ∀ y b, Rch S (2 ^ S.length - 1) y b → Rch S (2 ^ S.length - 1) x y → Rch S (B x) y b := by
    intro y b h
    induction h with
    | refl => exact fun _ => .refl _
    | @snoc z b h1 e a ih =>
      intro hy
      exact .snoc (ih hy) e ((hB x b).mpr ⟨e.lt W, hy.trans (.snoc h1 e a)⟩)
  refine ⟨B x, ⟨⟨x, (hB x x).mpr ⟨hxl, .refl x⟩⟩, fun a b ha hb => ?_⟩, fun g hg => hx.trans ((hB x g).mp hg).2⟩
  obtain ⟨a1, a2⟩ := (hB x a).mp ha
  obtain ⟨b1, b2⟩ := (hB x b).mp hb
  obtain ⟨y, e⟩ := Edge.some W a1
  have ey : (2 ^ S.length - 1).testBit y = true := (full_bit _ _).mpr (e.lt W)
  have xy : Rch S (2 ^ S.length - 1) x y := .snoc a2 e ey
  have hby : (B y).testBit b = true := by rw [same y xy]; exact hb
  exact ⟨y, e, (hB x y).mpr ⟨e.lt W, xy⟩, clo y b ((hB y b).mp hby).2 xy⟩
/-! ### words -/
def stp (S : Stp) (r i : Nat) : Nat := (S.getD r []).getD i 0
/-- the rooms ahead of each letter; the room behind all -/
def ahead (S : Stp) : Nat → List Nat → List Nat
  | _, [] => []
  | r, i :: is => r :: ahead S (stp S r i) is
def behind (S : Stp) : Nat → List Nat → Nat
  | r, [] => r
  | r, i :: is => behind S (stp S r i) is
theorem behind_append (S : Stp) : ∀ (r : Nat) (a b : List Nat), behind S r (a ++ b) = behind S (behind S r a) b
  | _, [], _ => rfl
  | r, i :: a, b => behind_append S (stp S r i) a b
theorem ahead_append (S : Stp) : ∀ (r : Nat) (a b : List Nat), ahead S r (a ++ b) = ahead S r a ++ ahead S (behind S r a) b
  | _, [], _ => rfl
  | r, i :: a, b => congrArg (r :: ·) (ahead_append S (stp S r i) a b)
theorem ahead_length (S : Stp) : ∀ (r : Nat) (a : List Nat), (ahead S r a).length = a.length
  | _, [] => rfl
  | r, i :: a => congrArg (· + 1) (ahead_length S (stp S r i) a)
theorem stp_lt {S : Stp} {k r i : Nat} (W : WF S k) (hr : r < S.length) (hi : i < k) : stp S r i < S.length := by
  have e : S[r]? = some S[r] := List.getElem?_eq_getElem hr
  have hl := W.row _ (List.mem_of_getElem? e)
  unfold stp
  rw [List.getD_eq_getElem?_getD (l := S), e, Option.getD_some, List.getD_eq_getElem?_getD, List.getElem?_eq_getElem (by omega), Option.getD_some]
  exact W.lt _ (List.mem_of_getElem? e) _ (List.getElem_mem _)
theorem stp_edge {S : Stp} {k r i : Nat} (W : WF S k) (hr : r < S.length) (hi : i < k) : Edge S r (stp S r i) := by
  have e : S[r]? = some S[r] := List.getElem?_eq_getElem hr
  have hl := W.row _ (List.mem_of_getElem? e)
  refine ⟨S[r], e, ?_⟩
  unfold stp
  rw [List.getD_eq_getElem?_getD (l := S), e, Option.getD_some, List.getD_eq_getElem?_getD, List.getElem?_eq_getElem (by omega), Option.getD_some]
  exact List.getElem_mem _
theorem behind_lt {S : Stp} {k : Nat} (W : WF S k) : ∀ {r : Nat} {is : List Nat}, r < S.length → (∀ i ∈ is, i < k) → behind S r is < S.length
  | _, [], hr, _ => hr
  | r, i :: is, hr, h => behind_lt (r := stp S r i) (is := is) W (stp_lt W hr (h i (List.mem_cons_self ..))) fun j hj => h j (List.mem_cons_of_mem _ hj)
theorem ahead_lt {S : Stp} {k : Nat} (W : WF S k) : ∀ {r : Nat} {is : List Nat}, r < S.length → (∀ i ∈ is, i < k) → ∀ v ∈ ahead S r is, v < S.length
  | _, [], _, _, _, hv => nomatch hv
  | r, i :: is, hr, h, v, hv => by
    rcases List.mem_cons.mp hv with e | e
    · rw [e]
      exact hr
    · exact ahead_lt W (stp_lt W hr (h i (List.mem_cons_self ..))) (fun j hj => h j (List.mem_cons_of_mem _ hj)) v e
end Lr

set_option Elab.async false
set_option linter.all false
set_option maxRecDepth 100000
set_option maxHeartbeats 4000000
namespace Lr
open PySem PySem.Spec PyProof.Rows L2
/-! ### the text by places -/
def top (i : Nat) : Stmt := PySem.Challenge.pw_looprank_k25_dead_and_sure.main.body.getD i (.Pass ⟨0, 0, 0, 0⟩)
abbrev s_is_word : Stmt := top 9
abbrev s_is_endless : Stmt := top 10
abbrev s_bits_of : Stmt := top 12
abbrev s_rooms_of : Stmt := top 13
abbrev s_has_room : Stmt := top 14
abbrev s_every_room : Stmt := top 15
abbrev s_spread : Stmt := top 16
abbrev s_seen_from : Stmt := top 17
abbrev s_reaching : Stmt := top 18
abbrev s_beyond : Stmt := top 19
abbrev s_loop_parts : Stmt := top 20
abbrev s_is_loop : Stmt := top 21
abbrev s_top_rank : Stmt := top 22
abbrev s_way_in : Stmt := top 23
abbrev s_turning_letter : Stmt := top 24
abbrev s_round_in : Stmt := top 25
abbrev s_up_to_rank : Stmt := top 26
abbrev s_parts_of_rank : Stmt := top 27
abbrev s_rooms_on_loops : Stmt := top 28
abbrev s_dead_rooms : Stmt := top 29
abbrev s_sure_rooms : Stmt := top 30
abbrev s_is_whole : Stmt := top 33
abbrev s_is_step : Stmt := top 34
abbrev s_are_steps : Stmt := top 35
abbrev s_are_ranks : Stmt := top 36
abbrev s_law_cell : Stmt := top 39
abbrev s_law_mix : Stmt := top 40
abbrev s_law_machine : Stmt := top 41
abbrev s_law_whole : Stmt := top 42
abbrev s_law_ahead : Stmt := top 43
abbrev s_law_is_loop : Stmt := top 44
abbrev s_law_loops : Stmt := top 45
abbrev s_law_top : Stmt := top 46
abbrev s_law : Stmt := top 47
abbrev m_init : Stmt := inClass (top 37) 0
abbrev m_need : Stmt := inClass (top 37) 1
abbrev m_along : Stmt := inClass (top 37) 3
abbrev m_walk : Stmt := inClass (top 37) 5
abbrev m_lets : Stmt := inClass (top 37) 6
/-! ### values -/
def nV (k : Nat) : V := .int (k : Int)
theorem nV_inj {a b : Nat} (h : nV a = nV b) : a = b := by
  have := V.int.inj h
  omega
theorem map_nV (l : List Nat) : l.map nV = (l.map fun k : Nat => (k : Int)).map V.int := by
  rw [List.map_map]
  rfl
theorem nV_get {l : List Nat} {i : Nat} {v : V} (h : (l.map nV)[i]? = some v) : ∃ x, l[i]? = some x ∧ v = nV x := by
  rw [List.getElem?_map] at h
  cases e : l[i]? with
  | none =>
    rw [e] at h
    cases h
  | some x =>
    rw [e] at h
    exact ⟨x, rfl, (Option.some.inj h).symm⟩
theorem get_nV {l : List Nat} {i x : Nat} (h : l[i]? = some x) : (l.map nV)[i]? = some (nV x) := by
  rw [List.getElem?_map, h]
  rfl

/-! ### operators on natural numbers -/
section
variable {X : Cx}
theorem op_orN : OpR X (binaryOp .BitOr) (fun x y H Q => ∃ a b : Nat, x = nV a ∧ y = nV b ∧ Q (nV (a ||| b)) H) := by
  intro pins s σ H x y v u Q I rx ry h
  obtain ⟨a, b, rfl, rfl, q⟩ := h
  refine op_or pins s σ H _ _ v u Q I rx ry ⟨(a : Int), (b : Int), rfl, rfl, ?_⟩
  show Q (V.int (Builtin.bitOr (a : Int) (b : Int))) H
  rw [Bits.bitOr_pp (by omega) (by omega), Int.toNat_natCast, Int.toNat_natCast]
  exact q
theorem op_andN : OpR X (binaryOp .BitAnd) (fun x y H Q => ∃ a b : Nat, x = nV a ∧ y = nV b ∧ Q (nV (a &&& b)) H) := by
  intro pins s σ H x y v u Q I rx ry h
  obtain ⟨a, b, rfl, rfl, q⟩ := h
  exact op_and pins s σ H _ _ v u Q I rx ry ⟨(a : Int), (b : Int), rfl, rfl, q⟩
theorem op_xorN : OpR X (binaryOp .BitXor) (fun x y H Q => ∃ a b : Nat, x = nV a ∧ y = nV b ∧ Q (nV (a ^^^ b)) H) := by
  intro pins s σ H x y v u Q I rx ry h
  obtain ⟨a, b, rfl, rfl, q⟩ := h
  refine op_xor pins s σ H _ _ v u Q I rx ry ⟨(a : Int), (b : Int), rfl, rfl, ?_⟩
  show Q (V.int (Builtin.bitXor (a : Int) (b : Int))) H
  rw [Bits.bitXor_pp (by omega) (by omega), Int.toNat_natCast, Int.toNat_natCast]
  exact q
/-- 1 << r -/
theorem op_oneN : OpR X (binaryOp .LShift) (fun x y H Q => ∃ r : Nat, x = .int 1 ∧ y = nV r ∧ r ≤ 1000 ∧ Q (nV (2 ^ r)) H) := by
  intro pins s σ H x y v u Q I rx ry h
  obtain ⟨r, rfl, rfl, hr, q⟩ := h
  refine op_shl pins s σ H _ _ v u Q I rx ry ⟨1, (r : Int), rfl, rfl, ⟨by omega, by omega, by decide⟩, ?_⟩
  have e : (1 : Int) * 2 ^ ((r : Int)).toNat = ((2 ^ r : Nat) : Int) := by
    rw [Int.toNat_natCast, Int.one_mul, Int.natCast_pow]
    rfl
  show Q (V.int ((1 : Int) * 2 ^ ((r : Int)).toNat)) H
  rw [e]
  exact q
theorem op_shrM : OpR X (binaryOp .RShift) (fun x y H Q => ∃ a r : Nat, x = nV a ∧ y = nV r ∧ Q (nV (a / 2 ^ r)) H) := by
  intro pins s σ H x y v u Q I rx ry h
  obtain ⟨a, r, rfl, rfl, q⟩ := h
  refine op_shr pins s σ H _ _ v u Q I rx ry ⟨(a : Int), (r : Int), rfl, rfl, by omega, ?_⟩
  have e : (a : Int) / 2 ^ ((r : Int)).toNat = ((a / 2 ^ r : Nat) : Int) := by
    rw [Int.toNat_natCast, Int.natCast_ediv, Int.natCast_pow]
    rfl
  show Q (V.int ((a : Int) / 2 ^ ((r : Int)).toNat)) H
  rw [e]
  exact q
theorem op_addM : OpR X (binaryOp .Add) (fun x y H Q => ∃ a b : Nat, x = nV a ∧ y = nV b ∧ Q (nV (a + b)) H) := by
  intro pins s σ H x y v u Q I rx ry h
  obtain ⟨a, b, rfl, rfl, q⟩ := h
  refine op_add pins s σ H _ _ v u Q I rx ry ⟨(a : Int), (b : Int), rfl, rfl, ?_⟩
  have e : (a : Int) + (b : Int) = ((a + b : Nat) : Int) := by omega
  show Q (V.int ((a : Int) + (b : Int))) H
  rw [e]
  exact q
theorem op_subM : OpR X (binaryOp .Sub) (fun x y H Q => ∃ a b : Nat, x = nV a ∧ y = nV b ∧ b ≤ a ∧ Q (nV (a - b)) H) := by
  intro pins s σ H x y v u Q I rx ry h
  obtain ⟨a, b, rfl, rfl, hb, q⟩ := h
  refine op_sub pins s σ H _ _ v u Q I rx ry ⟨(a : Int), (b : Int), rfl, rfl, ?_⟩
  have e : (a : Int) - (b : Int) = ((a - b : Nat) : Int) := by omega
  show Q (V.int ((a : Int) - (b : Int))) H
  rw [e]
  exact q
theorem op_modM : OpR X (binaryOp .Mod) (fun x y H Q => ∃ a b : Nat, x = nV a ∧ y = nV b ∧ 0 < b ∧ Q (nV (a % b)) H) := by
  intro pins s σ H x y v u Q I rx ry h
  obtain ⟨a, b, rfl, rfl, hb, q⟩ := h
  refine op_mod pins s σ H _ _ v u Q I rx ry ⟨(a : Int), (b : Int), rfl, rfl, by omega, ?_⟩
  have e : (a : Int) % (b : Int) = ((a % b : Nat) : Int) := by omega
  show Q (V.int ((a : Int) % (b : Int))) H
  rw [e]
  exact q
theorem op_eqM : OpR X (compareOp .Eq) (fun x y H Q => ∃ a b : Nat, x = nV a ∧ y = nV b ∧ Q (.bl (decide (a = b))) H) := by
  intro pins s σ H x y v u Q I rx ry h
  obtain ⟨a, b, rfl, rfl, q⟩ := h
  refine op_eq pins s σ H _ _ v u Q I rx ry ⟨rfl, ?_⟩
  have e : decide (nV a = nV b) = decide (a = b) := by
    by_cases h : a = b
    · rw [decide_eq_true h, decide_eq_true (congrArg nV h)]
    · rw [decide_eq_false h, decide_eq_false fun z => h (nV_inj z)]
  show Q (V.bl (decide (nV a = nV b))) H
  rw [e]
  exact q
theorem op_neM : OpR X (compareOp .NotEq) (fun x y H Q => ∃ a b : Nat, x = nV a ∧ y = nV b ∧ Q (.bl (!decide (a = b))) H) := by
  intro pins s σ H x y v u Q I rx ry h
  obtain ⟨a, b, rfl, rfl, q⟩ := h
  refine op_ne pins s σ H _ _ v u Q I rx ry ⟨rfl, ?_⟩
  have e : decide (nV a = nV b) = decide (a = b) := by
    by_cases h : a = b
    · rw [decide_eq_true h, decide_eq_true (congrArg nV h)]
    · rw [decide_eq_false h, decide_eq_false fun z => h (nV_inj z)]
  show Q (V.bl (!decide (nV a = nV b))) H
  rw [e]
  exact q
theorem op_ltM : OpR X (compareOp .Lt) (fun x y H Q => ∃ a b : Nat, x = nV a ∧ y = nV b ∧ Q (.bl (decide (a < b))) H) := by
  intro pins s σ H x y v u Q I rx ry h
  obtain ⟨a, b, rfl, rfl, q⟩ := h
  refine op_lt pins s σ H _ _ v u Q I rx ry ⟨(a : Int), (b : Int), rfl, rfl, ?_⟩
  have e : decide ((a : Int) < (b : Int)) = decide (a < b) := decide_eq_decide.mpr (by omega)
  show Q (V.bl (decide ((a : Int) < (b : Int)))) H
  rw [e]
  exact q
abbrev rLeM : R2 := fun x y H Q => ∃ a b : Nat, x = nV a ∧ y = nV b ∧ Q (.bl (decide (a ≤ b))) H
theorem op_leM : OpR X (compareOp .LtE) rLeM := by
  intro pins s σ H x y v u Q I rx ry h
  obtain ⟨a, b, rfl, rfl, q⟩ := h
  refine op_le pins s σ H _ _ v u Q I rx ry ⟨(a : Int), (b : Int), rfl, rfl, ?_⟩
  have e : decide ((a : Int) ≤ (b : Int)) = decide (a ≤ b) := decide_eq_decide.mpr (by omega)
  show Q (V.bl (decide ((a : Int) ≤ (b : Int)))) H
  rw [e]
  exact q
theorem op_gtM : OpR X (compareOp .Gt) (fun x y H Q => ∃ a b : Nat, x = nV a ∧ y = nV b ∧ Q (.bl (decide (b < a))) H) := by
  intro pins s σ H x y v u Q I rx ry h
  obtain ⟨a, b, rfl, rfl, q⟩ := h
  refine op_gt pins s σ H _ _ v u Q I rx ry ⟨(a : Int), (b : Int), rfl, rfl, ?_⟩
  have e : decide ((b : Int) < (a : Int)) = decide (b < a) := decide_eq_decide.mpr (by omega)
  show Q (V.bl (decide ((b : Int) < (a : Int)))) H
  rw [e]
  exact q
theorem op_geM : OpR X (compareOp .GtE) (fun x y H Q => ∃ a b : Nat, x = nV a ∧ y = nV b ∧ Q (.bl (decide (b ≤ a))) H) := by
  intro pins s σ H x y v u Q I rx ry h
  obtain ⟨a, b, rfl, rfl, q⟩ := h
  refine op_ge pins s σ H _ _ v u Q I rx ry ⟨(a : Int), (b : Int), rfl, rfl, ?_⟩
  have e : decide ((b : Int) ≤ (a : Int)) = decide (b ≤ a) := decide_eq_decide.mpr (by omega)
  show Q (V.bl (decide ((b : Int) ≤ (a : Int)))) H
  rw [e]
  exact q
end

/-! ### heaps -/
theorem same_upd {H : Hp} {p : Addr} {o : HO} (h : H p = none) : Same H (upd H p o) := fun b x e => by
  rw [upd_ne (ne_of_none e h)]
  exact e
/-- a change of what H does not track -/
theorem same_put {H H1 : Hp} {a : Addr} {o : HO} (s : Same H H1) (n : H a = none) : Same H (upd H1 a o) := fun b x e => by
  rw [upd_ne (ne_of_none e n)]
  exact s b x e
/-- rows of room numbers -/
def Rows (H : Hp) (ls : Addr) (S : Stp) : Prop := ∃ rs : List Addr, H ls = some (.lst (rs.map V.ref)) ∧ rs.length = S.length ∧ ∀ (i : Nat) (row : List Nat), S[i]? = some row → ∃ a, rs[i]? = some a ∧ H a = some (.lst (row.map nV))
theorem Rows.same {H H' : Hp} {ls : Addr} {S : Stp} (r : Rows H ls S) (s : Same H H') : Rows H' ls S := by
  obtain ⟨rs, h1, h2, h3⟩ := r
  refine ⟨rs, s _ _ h1, h2, fun i row e => ?_⟩
  obtain ⟨a, e1, e2⟩ := h3 i row e
  exact ⟨a, e1, s _ _ e2⟩
/-- the r-th row -/
theorem Rows.row {K : PySem.W.Frag} {H : Hp} {ls : Addr} {S : Stp} {r : Nat} (R : Rows H ls S) (h : r < S.length) :
    ∃ (rs : List Addr) (a : Addr) (row : List Nat), SqL K H ls (rs.map V.ref) ∧ atI (rs.map V.ref) (r : Int) = some (.ref a) ∧ S[r]? = some row ∧ H a = some (.lst (row.map nV)) := by
  obtain ⟨rs, h1, h2, h3⟩ := R
  obtain ⟨a, e1, e2⟩ := h3 r S[r] (List.getElem?_eq_getElem h)
  refine ⟨rs, a, S[r], SqL.of h1, atI_nat ?_, List.getElem?_eq_getElem h, e2⟩
  rw [List.getElem?_map, e1]
  rfl
/-- a machine's fields -/
def mf (ls lr : Addr) (n k : Nat) : List (Str × V) := [("steps", .ref ls), ("ranks", .ref lr), ("many", nV n), ("letters", nV k)]
theorem mf_steps (ls lr : Addr) (n k : Nat) : (mf ls lr n k).lookup ("steps" : Str) = some (.ref ls) := by rfl
theorem mf_ranks (ls lr : Addr) (n k : Nat) : (mf ls lr n k).lookup ("ranks" : Str) = some (.ref lr) := by rfl
theorem mf_many (ls lr : Addr) (n k : Nat) : (mf ls lr n k).lookup ("many" : Str) = some (nV n) := by rfl
theorem mf_letters (ls lr : Addr) (n k : Nat) : (mf ls lr n k).lookup ("letters" : Str) = some (nV k) := by rfl
/-- at m a machine stands -/
def Mach (C : Addr) (H : Hp) (m : Addr) (S : Stp) (R : List Nat) (k : Nat) : Prop :=
  WF S k ∧ R.length = S.length ∧ ∃ dx ls lr, H m = some (.ins C dx (mf ls lr S.length k)) ∧ Rows H ls S ∧ H lr = some (.lst (R.map nV))
theorem Mach.same {C : Addr} {H H' : Hp} {m : Addr} {S : Stp} {R : List Nat} {k : Nat} (M : Mach C H m S R k) (s : Same H H') : Mach C H' m S R k := by
  obtain ⟨w, e, dx, ls, lr, h1, h2, h3⟩ := M
  exact ⟨w, e, dx, ls, lr, s _ _ h1, h2.same s, s _ _ h3⟩

/-! ### what the top has left -/
structure Txt (K : PySem.W.Frag) (mg : Str → Option Value) (C : Addr) : Prop where
  cl : Cls K C
  nS : NoAttr K C "steps"
  nR : NoAttr K C "ranks"
  nM : NoAttr K C "many"
  nL : NoAttr K C "letters"
  mgC : mg "Machine" = some (.ref C)
  lets : ∃ t, mg "LETTERS" = some (.str "abc" t)
  most : ∃ t, mg "MOST_ROOMS" = some (.int 8 t)
  isi : mg "isinstance" = none
  str : mg "str" = none
  tuple : mg "tuple" = none
  len : mg "len" = none
  int : mg "int" = none
  bool : mg "bool" = none
  list : mg "list" = none
  range : mg "range" = none
  max : mg "max" = none
  zip : mg "zip" = none
  sorted : mg "sorted" = none
  set : mg "set" = none
  sum : mg "sum" = none

/-! ### defs -/
/-- a def of the module as it stands behind the top -/
def DefA (K : PySem.W.Frag) (mg : Str → Option Value) (x : Str) (st : Stmt) (ps : List Str) : Prop :=
  ∃ (f : Addr) (fd : FuncData), FunD K x x (defArgs st) (defBody st) (defScope st) [] [] f fd ∧ mg x = some (.ref f) ∧ Binds K fd ps []
section
variable {P : Program} {w : World} {K : PySem.W.Frag} {mg : Str → Option Value} {base : Heap}
abbrev Cal (P : Program) (w : World) (K : PySem.W.Frag) (mg : Str → Option Value) (base : Heap) (k : Nat) (x : Str) (sp : Sp) : Prop := C8.Cal P w K mg base k x sp []
theorem cal {x : Str} {st : Stmt} {N ps : List Str} {k : Nat} {sp : Sp} (F : DefA K mg x st ps) (S : FnScope N ps (defScope st)) (len : ∀ vs H Q E, sp vs H Q E → vs.length = ps.length)
    (hbody : ∀ (f : Addr) (cdv : Value) (A : Around) (outer : List Env) (s : Shared) (H : Hp) (vs : List V) (Q : VK) (E : XK), Room k (A.deeper (envOfC x (defScope st) s.heap.objs.size f cdv)) → sp vs H Q E →
      ∃ t, PSs (cxOf C8.CX0 P w K mg base N x (defScope st) f cdv A outer s H E).nox (defBody st) t ∧ t { nx := fun _ H' => Q .non H', rt := Q } (start N vs) H) : Cal P w K mg base (k + 1) x sp := by
  obtain ⟨f, fd, D, hm, b⟩ := F
  exact ⟨f, fd, ps, [], D.ok S len (fun cdv A outer s H vs Q E hr h => let ⟨t, p, q⟩ := hbody f cdv A outer s H vs Q E hr h; ⟨t, p.nox, q⟩), hm, D.kp, b, .nil⟩
end
end Lr

set_option Elab.async false
set_option linter.all false
set_option maxRecDepth 100000
set_option maxHeartbeats 4000000
namespace Lr
open PySem PySem.Spec PyProof.Rows L2
section
variable {P : Program} {w : World} {K : PySem.W.Frag} {mg : Str → Option Value} {base : Heap} {C : Addr}
/-! ### bits_of -/
theorem sc_bits_of : FnScope ["rooms", "bits", "room"] ["rooms"] (defScope s_bits_of) := ⟨rfl, rfl, rfl, by decide +kernel, rfl, by decide +kernel, by decide +kernel⟩
def spBitsOf (K : PySem.W.Frag) : Sp := fun vs H Q _ => ∃ (a : Addr) (rs : List Nat), vs = [.ref a] ∧ SqL K H a (rs.map nV) ∧ (∀ r ∈ rs, r ≤ 1000) ∧ ∀ b : Nat, (∀ r, b.testBit r = true ↔ r ∈ rs) → Q (nV b) H
theorem c_bits_of (F : DefA K mg "bits_of" s_bits_of ["rooms"]) : Cal P w K mg base 1 "bits_of" (spBitsOf K) := by
  refine cal F sc_bits_of (fun vs H Q E h => ?_) (fun f cdv A outer s H vs Q E hr h => ?_)
  · obtain ⟨a, rs, rfl, _⟩ := h
    rfl
  · obtain ⟨a, rs, rfl, hS, hle, q⟩ := h
    refine ⟨_, pss_cons (ps_set (i := 1) sc_bits_of.nd rfl (.inl rfl) pe_int)
      (pss_cons (ps_for PassesOwn.never rfl (pi_list (pv 0)) (pg_name (i := 2) sc_bits_of.nd rfl (.inl rfl))
        (pss_one (ps_set (i := 1) sc_bits_of.nd rfl (.inl rfl) (pe_op op_orN (pv 1) (pe_op op_oneN pe_int (pv 2))))))
      (pss_one (ps_ret (pv 1)))), ?_⟩
    refine ⟨.ref a, rfl, a, rfl, ⟨_, hS⟩, for_list (K := K) (a := a) (xs := rs.map nV) (fun i σ H' => ∃ (b : Nat) (v : Option V), σ = [some (.ref a), some (nV b), v] ∧ H' = H ∧ ∀ r, b.testBit r = true ↔ r ∈ rs.take i)
      ⟨0, none, rfl, rfl, by simp⟩ (fun i σ H' _ ⟨_, _, _, e, _⟩ => e ▸ hS) ?_ ?_⟩
    · rintro i x σ H' hx ⟨b, v, rfl, rfl, hb⟩
      obtain ⟨r, er, rfl⟩ := nV_get hx
      refine ⟨_, rfl, _, rfl, r, rfl, rfl, hle r (List.mem_of_getElem? er), b, 2 ^ r, rfl, rfl, ?_⟩
      refine ⟨b ||| 2 ^ r, _, rfl, rfl, fun g => ?_⟩
      rw [or_bit, one_bit, hb, List.take_add_one, er, List.mem_append]
      simp [eq_comm]
    · rintro σ H' ⟨b, v, rfl, rfl, hb⟩
      refine ⟨_, rfl, ?_⟩
      refine q b fun r => ?_
      rw [hb, List.length_map, List.take_length]
/-! ### rooms_of -/
def IsRooms (b : Nat) (rs : List Nat) : Prop := rs.Pairwise (· < ·) ∧ ∀ r, r ∈ rs ↔ b.testBit r = true
theorem sc_rooms_of : FnScope ["bits", "rooms", "room"] ["bits"] (defScope s_rooms_of) := ⟨rfl, rfl, rfl, by decide +kernel, rfl, by decide +kernel, by decide +kernel⟩
def spRoomsOf : Sp := fun vs H Q _ => ∃ b : Nat, vs = [nV b] ∧ b < 2 ^ 8 ∧ ∀ (H' : Hp) (p : Addr) (rs : List Nat), Same H H' → H p = none → IsRooms b rs → rs.length ≤ 8 → H' p = some (.lst (rs.map nV)) → Q (.ref p) H'
theorem c_rooms_of (F : DefA K mg "rooms_of" s_rooms_of ["bits"]) : Cal P w K mg base 1 "rooms_of" spRoomsOf := by
  refine cal F sc_rooms_of (fun vs H Q E h => ?_) (fun f cdv A outer s H vs Q E hr h => ?_)
  · obtain ⟨b, rfl, _⟩ := h
    rfl
  · obtain ⟨b, rfl, hb8, q⟩ := h
    refine ⟨_, pss_cons (ps_set (i := 1) sc_rooms_of.nd rfl (.inl rfl) (pe_lst pa_nil))
      (pss_cons (ps_set (i := 2) sc_rooms_of.nd rfl (.inl rfl) pe_int)
      (pss_cons (ps_while PassesOwn.never (pt_cmpR op_gtM (pv 0) pe_int (nomark _))
        (pss_cons (ps_if (pt_cmpR op_eqM (pe_op op_andN (pv 0) pe_int) pe_int (nomark _))
            (pss_one (ps_expr (pe_bm PySem.F.plainAttrs_list PySem.F.slot_list_append PySem.F.type_list_append mt_append (pv 1) (pa_cons (pv 2) pa_nil)))) pss_nil)
        (pss_cons (ps_set (i := 0) sc_rooms_of.nd rfl (.inl rfl) (pe_op op_shrM (pv 0) pe_int))
        (pss_one (ps_set (i := 2) sc_rooms_of.nd rfl (.inl rfl) (pe_op op_addM (pv 2) pe_int))))))
      (pss_one (ps_ret (pv 1))))), ?_⟩
    refine ⟨Nat.zero_le _, fun o no => ?_⟩
    refine ⟨fun m σ H' => ∃ (c r : Nat) (rs : List Nat), σ = [some (nV c), some (.ref o), some (nV r)] ∧ m = c ∧ Same H H' ∧ H' o = some (.lst (rs.map nV)) ∧ rs.Pairwise (· < ·) ∧ (∀ g, g ∈ rs ↔ b.testBit g = true ∧ g < r) ∧ ∀ i, c.testBit i = b.testBit (i + r),
      ⟨b, b, 0, [], rfl, rfl, same_upd no, upd_same, List.Pairwise.nil, by simp, fun i => rfl⟩, ?_⟩
    rintro m σ H' ⟨c, r, rs, rfl, rfl, sm, ho, pw, hm, hc⟩
    refine ⟨_, rfl, m, 0, rfl, rfl, _, rfl, ite2 (fun hp => ?_) (fun hp => ?_)⟩
    · have hp : 0 < m := of_decide_eq_true hp
      have hmb : ∀ g, g ∈ rs → g < 8 := fun g hg => bit_lt hb8 ((hm g).mp hg).1
      have hlen : rs.length ≤ 8 := nodup_len (pw_nodup pw) hmb
      have e0 : m.testBit 0 = b.testBit r := by
        rw [hc 0, Nat.zero_add]
      have half : m / 2 < m := Nat.div_lt_self hp (by decide)
      have hcs : ∀ i, (m / 2).testBit i = b.testBit (i + (r + 1)) := fun i => by
        rw [Nat.testBit_div_two, hc]
        congr 1
        omega
      refine ⟨fun σ' H'' => ∃ (rs' : List Nat), σ' = [some (nV (m / 2)), some (.ref o), some (nV (r + 1))] ∧ Same H H'' ∧ H'' o = some (.lst (rs'.map nV)) ∧ rs'.Pairwise (· < ·) ∧ (∀ g, g ∈ rs' ↔ b.testBit g = true ∧ g < r + 1), fun σ' H'' ⟨rs', e1, e2, e3, e4, e5⟩ => ⟨m / 2, half, m / 2, r + 1, rs', e1, rfl, e2, e3, e4, e5, hcs⟩, ?_⟩
      refine ⟨_, rfl, m, 1, rfl, rfl, m &&& 1, 1, rfl, rfl, _, rfl, ite2 (fun hb => ?_) (fun hb => ?_)⟩
      · have hb : m &&& 1 = 1 := of_decide_eq_true hb
        have hbit : b.testBit r = true := by
          rw [← e0, Nat.testBit_zero, decide_eq_true_iff, ← Nat.and_one_is_mod]
          exact hb
        refine ⟨.ref o, rfl, .inl ⟨rfl, _, SqL.of ho⟩, _, rfl, o, _, _, rfl, rfl, ho, ?_, ?_⟩
        · rw [List.length_map]
          exact small1000 (by omega)
        · refine ⟨_, rfl, m, 1, rfl, rfl, _, rfl, r, 1, rfl, rfl, rs ++ [r], rfl, same_put sm no, ?_, ?_, fun g => ?_⟩
          · rw [upd_same, List.map_append]
            rfl
          · refine List.pairwise_append.mpr ⟨pw, by simp, fun x hx y hy => ?_⟩
            have : y = r := by simpa using hy
            rw [this]
            exact ((hm x).mp hx).2
          · rw [List.mem_append, hm, List.mem_singleton]
            constructor
            · rintro (⟨h1, h2⟩ | rfl)
              · exact ⟨h1, by omega⟩
              · exact ⟨hbit, by omega⟩
            · rintro ⟨h1, h2⟩
              by_cases e : g = r
              · exact .inr e
              · exact .inl ⟨h1, by omega⟩
      · have hb : ¬ (m &&& 1 = 1) := fun z => hb (decide_eq_true z)
        have hbit : b.testBit r = false := by
          rw [← e0, Nat.testBit_zero, decide_eq_false_iff_not, ← Nat.and_one_is_mod]
          exact hb
        refine ⟨_, rfl, m, 1, rfl, rfl, _, rfl, r, 1, rfl, rfl, rs, rfl, sm, ho, pw, fun g => ?_⟩
        rw [hm]
        constructor
        · rintro ⟨h1, h2⟩
          exact ⟨h1, by omega⟩
        · rintro ⟨h1, h2⟩
          refine ⟨h1, ?_⟩
          by_cases e : g = r
          · rw [e, hbit] at h1
            cases h1
          · omega
    · have hp : ¬ 0 < m := fun z => hp (decide_eq_true z)
      have h0 : m = 0 := by omega
      have hmb : ∀ g, g ∈ rs → g < 8 := fun g hg => bit_lt hb8 ((hm g).mp hg).1
      refine ⟨.ref o, rfl, q H' o rs sm no ⟨pw, fun g => ?_⟩ (nodup_len (pw_nodup pw) hmb) ho⟩
      rw [hm]
      refine ⟨fun z => z.1, fun z => ⟨z, ?_⟩⟩
      by_cases e : g < r
      · exact e
      · have := hc (g - r)
        rw [h0, Nat.zero_testBit, show g - r + r = g by omega, z] at this
        cases this
/-! ### has_room, every_room -/
theorem sc_has_room : FnScope ["bits", "room"] ["bits", "room"] (defScope s_has_room) := ⟨rfl, rfl, rfl, by decide +kernel, rfl, by decide +kernel, by decide +kernel⟩
def spHasRoom : Sp := fun vs H Q _ => ∃ b r : Nat, vs = [nV b, nV r] ∧ Q (.bl (b.testBit r)) H
theorem c_has_room (F : DefA K mg "has_room" s_has_room ["bits", "room"]) : Cal P w K mg base 1 "has_room" spHasRoom := by
  refine cal F sc_has_room (fun vs H Q E h => ?_) (fun f cdv A outer s H vs Q E hr h => ?_)
  · obtain ⟨b, r, rfl, _⟩ := h
    rfl
  · obtain ⟨b, r, rfl, q⟩ := h
    refine ⟨_, pss_one (ps_ret (pe_cmpR op_eqM (pe_op op_andN (pe_op op_shrM (pv 0) (pv 1)) pe_int) pe_int (nomark _))), ?_⟩
    refine ⟨_, rfl, _, rfl, b, r, rfl, rfl, b / 2 ^ r, 1, rfl, rfl, (b / 2 ^ r) &&& 1, 1, rfl, rfl, ?_⟩
    have e : decide ((b / 2 ^ r) &&& 1 = 1) = b.testBit r := by
      rw [Nat.and_one_is_mod, ← Nat.testBit_zero, Nat.testBit_div_two_pow, Nat.zero_add]
    rw [e]
    exact q
theorem sc_every_room : FnScope ["machine"] ["machine"] (defScope s_every_room) := ⟨rfl, rfl, rfl, by decide +kernel, rfl, by decide +kernel, by decide +kernel⟩
def spEveryRoom (C : Addr) : Sp := fun vs H Q _ => ∃ (m : Addr) (S : Stp) (R : List Nat) (k : Nat), vs = [.ref m] ∧ Mach C H m S R k ∧ Q (nV (2 ^ S.length - 1)) H
theorem c_every_room (T : Txt K mg C) (F : DefA K mg "every_room" s_every_room ["machine"]) : Cal P w K mg base 1 "every_room" (spEveryRoom C) := by
  refine cal F sc_every_room (fun vs H Q E h => ?_) (fun f cdv A outer s H vs Q E hr h => ?_)
  · obtain ⟨m, S, R, k, rfl, _⟩ := h
    rfl
  · obtain ⟨m, S, R, k, rfl, M, q⟩ := h
    obtain ⟨W, hR, dx, ls, lr, h1, h2, h3⟩ := M
    refine ⟨_, pss_one (ps_ret (pe_op op_subM (pe_op op_oneN pe_int (pe_fld (pv 0) rfl)) pe_int)), ?_⟩
    have hn := W.n8
    refine ⟨_, rfl, m, C, dx, _, _, rfl, h1, T.cl, T.nM, mf_many _ _ _ _, S.length, rfl, rfl, by omega, 2 ^ S.length, 1, rfl, rfl, Nat.one_le_two_pow, q⟩
end
end Lr

set_option Elab.async false
set_option linter.all false
set_option maxRecDepth 100000
set_option maxHeartbeats 4000000
namespace Lr
open PySem PySem.Spec PyProof.Rows L2
/-! ### == of lists of whole numbers -/
theorem ints_all {K : PySem.W.Frag} {H : Hp} : ∀ ns : List Int, DpAll K H (ns.map V.int) (ns.map PyData.int)
  | [] => .nil
  | n :: ns => .cons (.int n) (ints_all ns)
theorem ints_dp {K : PySem.W.Frag} {H : Hp} {a : Addr} {ns : List Int} (h : SqL K H a (ns.map V.int)) : Dp K H (.ref a) (.list (ns.map PyData.int)) := .lst h (ints_all ns)
theorem ints_lay : ∀ ns : List Int, PyData.canLayAll0 (ns.map PyData.int) = true
  | [] => by simp [PyData.canLayAll0]
  | n :: ns => by
    simp only [List.map_cons, PyData.canLayAll0, PyData.canLay0, Bool.true_and]
    exact ints_lay ns
theorem ints_deep : ∀ ns : List Int, PyData.depthAll (ns.map PyData.int) = 0
  | [] => by simp [PyData.depthAll]
  | n :: ns => by
    simp only [List.map_cons, PyData.depthAll, PyData.depth, Nat.zero_max]
    exact ints_deep ns
theorem ints_shaped (ns : List Int) : SeqAt.shaped (.list (ns.map PyData.int)) = true := by
  unfold SeqAt.shaped
  simp only [PyData.canLay0, PyData.depth, ints_lay, ints_deep]
  decide
theorem ints_eqvAll : ∀ ns ms : List Int, PyData.eqvAll (ns.map PyData.int) (ms.map PyData.int) = decide (ns = ms)
  | [], [] => by simp [PyData.eqvAll]
  | [], m :: ms => by simp [PyData.eqvAll]
  | n :: ns, [] => by simp [PyData.eqvAll]
  | n :: ns, m :: ms => by
    simp only [List.map_cons, PyData.eqvAll, PyData.eqv, ints_eqvAll ns ms]
    by_cases h : n = m <;> by_cases h' : ns = ms <;> simp [h, h']
theorem ints_eqv (ns ms : List Int) : PyData.eqv (.list (ns.map PyData.int)) (.list (ms.map PyData.int)) = decide (ns = ms) := by
  simp only [PyData.eqv]
  exact ints_eqvAll ns ms
section
variable {X : Cx}
theorem op_eqLI (hu : X.A.units + 64 < cLine) : OpR X (compareOp .Eq) (fun x y H Q => ∃ (a b : Addr) (ns ms : List Int), x = .ref a ∧ y = .ref b ∧ SqL X.K H a (ns.map V.int) ∧ SqL X.K H b (ms.map V.int) ∧ Q (.bl (decide (ns = ms))) H) := by
  intro pins s σ H x y v u Q I rx ry h
  obtain ⟨a, b, ns, ms, rfl, rfl, ha, hb, q⟩ := h
  refine op_eqD hu pins s σ H _ _ v u Q I rx ry ⟨_, _, ints_dp ha, ints_dp hb, ints_shaped ns, ints_shaped ms, ?_⟩
  rw [ints_eqv]
  exact q
theorem op_neLI (hu : X.A.units + 64 < cLine) : OpR X (compareOp .NotEq) (fun x y H Q => ∃ (a b : Addr) (ns ms : List Int), x = .ref a ∧ y = .ref b ∧ SqL X.K H a (ns.map V.int) ∧ SqL X.K H b (ms.map V.int) ∧ Q (.bl (!decide (ns = ms))) H) := by
  intro pins s σ H x y v u Q I rx ry h
  obtain ⟨a, b, ns, ms, rfl, rfl, ha, hb, q⟩ := h
  refine op_neD hu pins s σ H _ _ v u Q I rx ry ⟨_, _, ints_dp ha, ints_dp hb, ints_shaped ns, ints_shaped ms, ?_⟩
  rw [ints_eqv]
  exact q
end
theorem ints_inj {a b : List Nat} (h : (a.map fun k : Nat => (k : Int)) = b.map fun k : Nat => (k : Int)) : a = b :=
  List.map_inj_right (fun x y e => by omega) |>.mp h

/-! ### zip of a text and a list -/
/-- the signs of x and the items of the list at b as it stands, in new pairs -/
def ItzS (K : PySem.W.Frag) (x : Str) (b : Addr) : It where
  go := fun i H => ∃ (c : Nat) (ys : List V) (y : V), x.cps[i]? = some c ∧ SqL K H b ys ∧ ys[i]? = some y
  yld := fun i H v H' => ∃ (T : Addr) (c : Nat) (y : V), v = .ref T ∧ H T = none ∧ H' = upd H T (.tup [.str ⟨#[c]⟩, y]) ∧ x.cps[i]? = some c ∧ ∀ ys, SqL K H b ys → ys[i]? = some y
  stop := fun i H => ∃ ys : List V, SqL K H b ys ∧ i = min x.cps.size ys.length
/-- the iterator's five objects -/
def ZsAt (x : Str) (t : Tok) (b z TI TO i1 i2 : Addr) (i : Nat) (h : Heap) : Prop :=
  IsZip h z TI TO .none ∧ IsTupOf2 h TI (.ref i1) (.ref i2) ∧ (∃ p q, IsTupOf2 h TO p q) ∧ h.IsStrIter i1 (strIterType x) x t i ∧ h.IsListIter i2 b i
theorem five {z TI TO i1 i2 c : Addr} (h : c ∈ [z, TI, TO, i1, i2]) : c = z ∨ c = TI ∨ c = TO ∨ c = i1 ∨ c = i2 := by simpa using h
theorem four {z TI TO i1 i2 c : Addr} (h : c ∈ [z, TO, i1, i2]) : c ∈ [z, TI, TO, i1, i2] := by
  simp only [List.mem_cons, List.not_mem_nil, or_false] at h ⊢
  rcases h with h | h | h | h <;> simp [h]
theorem ZsAt.objs {x : Str} {t : Tok} {b z TI TO i1 i2 : Addr} {i : Nat} {h : Heap} (Z : ZsAt x t b z TI TO i1 i2 i h) : ∀ c ∈ [z, TI, TO, i1, i2], ∃ o, h.get? c = some o ∧ ∀ v, o.data ≠ .cell v := by
  obtain ⟨g1, g2, ⟨p, q, g3⟩, ⟨o4, g4, _, d4⟩, ⟨o5, g5, _, d5⟩⟩ := Z
  intro c hc
  rcases five hc with rfl | rfl | rfl | rfl | rfl
  · exact ⟨_, g1, fun v e => nomatch e⟩
  · exact ⟨_, g2, fun v e => nomatch e⟩
  · exact ⟨_, g3, fun v e => nomatch e⟩
  · exact ⟨_, g4, fun v e => by rw [d4] at e; exact nomatch e⟩
  · exact ⟨_, g5, fun v e => by rw [d5] at e; exact nomatch e⟩
theorem ZsAt.stay {x : Str} {t : Tok} {b z TI TO i1 i2 : Addr} {i : Nat} {h h' : Heap} (Z : ZsAt x t b z TI TO i1 i2 i h) (k : ∀ c ∈ [z, TI, TO, i1, i2], ∀ o, h.get? c = some o → h'.get? c = some o) : ZsAt x t b z TI TO i1 i2 i h' := by
  obtain ⟨g1, g2, ⟨p, q, g3⟩, ⟨o4, g4, r4⟩, g5⟩ := Z
  exact ⟨k z (by simp) _ g1, k TI (by simp) _ g2, ⟨p, q, k TO (by simp) _ g3⟩, ⟨o4, k i1 (by simp) _ g4, r4⟩, g5.at fun o e => k i2 (by simp) o e⟩
theorem sep_zs {n b : Nat} (hb : b < n) : ZipSep2 (n + 4) (n + 2) (n + 3) n (n + 1) [n] [n + 1, b] := by
  have e1 : ¬ n + 4 = b := Nat.ne_of_gt (Nat.lt_of_lt_of_le hb (Nat.le_add_right n 4))
  have e2 : ¬ n + 3 = b := Nat.ne_of_gt (Nat.lt_of_lt_of_le hb (Nat.le_add_right n 3))
  have e3 : ¬ n = b := Nat.ne_of_gt hb
  constructor <;> simp [e1, e2, e3]
theorem turn_zs {P : Program} {w : World} {K : PySem.W.Frag} {elts : List Expr} {kk : Nat} {tpos : Pos} {x : Str} {t : Tok} {b n : Addr} (hb : b < n) :
    Turn P w K (.Tuple elts kk tpos) (ItzS K x b) [n + 4, n + 2, n + 3, n, n + 1] (n + 4) (ZsAt x t b (n + 4) (n + 2) (n + 3) n (n + 1)) where
  mem := List.mem_cons_self ..
  obj := fun i h Z => Z.objs
  keep := fun i h h' Z k => Z.stay k
  item := by
    intro X hP hw hK hc i pins s σ H E I hf Z hg
    subst hP hw hK
    obtain ⟨c0, ys, y0, hx, hL, hy⟩ := hg
    obtain ⟨its, rv, pl, _⟩ := I.list hL
    obtain ⟨u, hu, ru⟩ := rv.get hy
    have hh : X.A.in1.handled = none := I.ok.hd hc
    have G := GoesN.zip2 (elts := elts) (x1 := kk) (pos := tpos) (sep_zs hb) (Draws.text (prog := X.prog) (w := X.w) hh n x t) (Draws.list (prog := X.prog) (w := X.w) hh (n + 1) b (Nat.ne_of_lt (Nat.lt_succ_of_lt hb)) its.toArray)
    obtain ⟨g1, g2, g3, g4, g5⟩ := id Z
    have hi1 : i < x.cps.size := (Array.getElem?_eq_some_iff.mp hx).1
    have hi2 : i < its.toArray.size := by
      rw [List.size_toArray]
      exact (List.getElem?_eq_some_iff.mp hu).1
    refine wpAny_mono (G.goes i s (fun v s2 => ∃ x1 H', Inv X pins σ H' s2 ∧ RelV x1 v ∧ (ItzS X.K x b).yld i H x1 H' ∧ ZsAt x t b (n + 4) (n + 2) (n + 3) n (n + 1) (i + 1) s2.heap ∧ ∀ c ∈ [n + 4, n + 2, n + 3, n, n + 1], H' c = none) E (by omega) ⟨g1, g2, g3, g4, g5, pl.isList⟩
      fun v h' tk hY st' hk htk => ?_) (fun r s1 hr => hr) (fun _ _ z => z)
    obtain ⟨T, v1, v2, rfl, hT, ⟨c, tc, hc1, rfl⟩, hc2, o, ho, hcl, m, hd⟩ := hY
    obtain ⟨q1, q2, q3, q4, q5, _⟩ := st'
    have e2 : its[i]? = some v2 := by simpa using hc2
    have eu : v2 = u := Option.some.inj (e2.symm.trans hu)
    subst eu
    have hn : H T = none := I.hok.fresh hT
    refine ⟨.ref T, upd H T (.tup [.str ⟨#[c]⟩, y0]), ?_, rfl, ⟨T, c, y0, rfl, hn, rfl, hc1, fun l hl => by rw [I.list_inj hl hL]; exact hy⟩, ⟨q1, q2, q3, q4, q5⟩, fun d hd => ?_⟩
    · refine I.turnedNew (ch := [n + 4, n + 2, n + 3, n, n + 1]) (fun d o hd e => hk d o (fun z => hd ?_) e) hf hT ⟨by show 2 ≤ sizeLine; decide, [_, v2], .cons ⟨tc, rfl⟩ (.cons ru .nil), o, ho, hcl, m, hd⟩
      exact four z
    · obtain ⟨o', e', _⟩ := Z.objs d hd
      rw [upd_ne (Nat.ne_of_lt (Nat.lt_of_lt_of_le (Heap.lt_size e') hT))]
      exact (hf d hd).1
  done := by
    intro X hP hw hK hc i pins s σ H E I hf Z hg
    subst hP hw hK
    obtain ⟨ys, hL, rfl⟩ := hg
    obtain ⟨its, rv, pl, _⟩ := I.list hL
    have hh : X.A.in1.handled = none := I.ok.hd hc
    have G := GoesN.zip2 (elts := elts) (x1 := kk) (pos := tpos) (sep_zs hb) (Draws.text (prog := X.prog) (w := X.w) hh n x t) (Draws.list (prog := X.prog) (w := X.w) hh (n + 1) b (Nat.ne_of_lt (Nat.lt_succ_of_lt hb)) its.toArray)
    obtain ⟨g1, g2, g3, g4, g5⟩ := id Z
    have hl : its.toArray.size = ys.length := by
      rw [List.size_toArray]
      exact rv.length.symm
    have st : _ := (⟨g1, g2, g3, g4, g5, pl.isList⟩ : IsZip s.heap (n + 4) (n + 2) (n + 3) .none ∧ IsTupOf2 s.heap (n + 2) (.ref n) (.ref (n + 1)) ∧ (∃ a1 a2, IsTupOf2 s.heap (n + 3) a1 a2) ∧ s.heap.IsStrIter n (strIterType x) x t (min x.cps.size ys.length) ∧ s.heap.IsListIter (n + 1) b (min x.cps.size ys.length) ∧ s.heap.IsList b its.toArray)
    refine wpAny_mono (G.stops s (fun s1 => Inv X pins σ H s1) E (by rw [hl]; exact st) fun h' tk hk htk => ?_) (fun r s1 hr => hr) (fun _ _ z => z)
    refine I.turnedL (ch := [n + 4, n + 2, n + 3, n, n + 1]) (fun d o hd e => hk d o (fun z => hd ?_) e) hf
    exact four z
  self := fun A i s Q E Z h => wpAny_pyIter_zip Z.1 h
def iZipS (K : PySem.W.Frag) (ta : TA) : TI := fun σ H R => ta σ H fun vs H1 => ∃ (x : Str) (b : Addr) (ys : List V), vs = [.str x, .ref b] ∧ SqL K H1 b ys ∧ R (ItzS K x b) H1
theorem pi_zipS {X : Cx} {e e2 : Expr} {ta : TA} {p pos tpos : Pos} {elts : List Expr} {kk : Nat} (hg : Gl X "zip") (hm : X.mg "zip" = none) (ha : PA X [e, e2] ta)
    (hs : starEach [e, e2] X.env = (false, eval e X.env) :: starEach [e2] X.env := by rfl) (hpl : (backTo pos (starEach [e2] X.env)).any (·.1) = false := by rfl) :
    PI X (.Tuple elts kk tpos) (.Call (.Name "zip" p) [e, e2] [] pos) (iZipS X.K ta) where
  run := by
    intro pins s σ H R I h
    refine Call_ (ld_blt I hg hm PyProof.Rows.boot_zip (PyProof.Rows.callWith_type1 (thn (ha.run pos pins s σ H _ I h) fun us s1 hq => ?_) hs hpl))
    obtain ⟨vs, H1, I1, r1, x, b, ys, rfl, hL, q⟩ := hq
    obtain ⟨u1, u2, rfl, ⟨t, rfl⟩, r2⟩ := vals2 r1
    cases r2
    obtain ⟨its, rv, pl, _⟩ := I1.list hL
    have hb : b < s1.heap.objs.size := pl.lt
    refine zip_begins2 (begins_text x t) (begins_list b its.toArray) trivial pl.isList fun h' g1 g2 g3 g4 g5 hsz hk => wpAny_pyIter_zip g1 ?_
    have I2 : Inv X pins σ H1 { s1 with heap := h' } := I1.kept (t' := s1.toks) hk
    refine ⟨s1.heap.objs.size + 4, _, _, _, H1, rfl, I2, turn_zs (t := t) hb, ⟨g1, g2, ⟨_, _, g3⟩, ⟨_, g4, rfl, rfl⟩, ⟨_, g5, rfl, rfl⟩⟩, fun c hcm => ?_, q⟩
    have hle : s1.heap.objs.size ≤ c := by
      rcases five hcm with rfl | rfl | rfl | rfl | rfl <;> omega
    exact I1.fpOk hle (I1.hok.fresh hle)
end Lr

set_option Elab.async false
set_option linter.all false
set_option maxRecDepth 100000
set_option maxHeartbeats 4000000
namespace Lr
open PySem PySem.Spec PyProof.Rows L2
/-! ### set(xs) of a list of whole numbers -/
/-- a new set -/
abbrev eset (w : World) : Obj := { cls := .type "set", dict := none, data := .set #[] 0 (.fresh 0 0 (!w.params.followText "set-order")) }
/-- what the call leaves: the set at a, all else as it was -/
def Made (w : World) (ns : List Int) (s s' : Shared) : Prop := ∃ (h' : Heap) (tk c : Nat), s' = { s with heap := h', toks := tk } ∧ SetR w h' s.heap.objs.size (fun j => decide (j ∈ ns)) c ∧ c ≤ ns.length ∧ ∀ b o, s.heap.get? b = some o → h'.get? b = some o
section
variable {P : Program} {w : World} {A : Around} {E : Value → Shared → Prop} {s : Shared}
set_option maxHeartbeats 3200000 in
theorem set_of_list {l : Addr} {items : Array Value} (ns : List Int) {Q : Value → Shared → Prop} (hh : A.handled = none) (hl : s.heap.IsList l items) (hit : IntsAre items.toList ns) (hb : ns.length + 1 < scanBound)
    (q : ∀ s', Made w ns s s' → Q (.ref s.heap.objs.size) s') : wpAny (model P w) A (call (.type "set") [.ref l]) Q E s := by
  have isz : items.size = ns.length := (Array.length_toList (xs := items)).symm.trans (IntsAre.length hit)
  obtain ⟨cm, tlm, hmro⟩ := F.called_set.mro
  have hmade := F.called_set.made
  have hsub := F.called_set.sub
  refine wpAny_call (codeAny_of_tree ?_)
  show wpAny _ _ (callAny (.type "set") _) _ _ _
  refine wpAny_pure ⟨Code.quiet_builtin _ (by decide +kernel), codeAny_builtin F.entry_type_call ?_⟩
  rw [Around.under_plain (weight_type_call_type "set" [.ref l] []) rfl]
  have f1 := F.called_set.notType
  have f2 := F.called_set.canCreate
  have f3 := F.typeCall_set_1 (.ref l)
  repeat (any_goals (first | assumption | wp_step))
  refine codeAny_mono (code_set_led1 (.ref l) (E := E) (Q₁ := fun obj s1 => obj = .ref s.heap.objs.size ∧ s1 = { s with heap := s.heap.push (eset w) }) ⟨rfl, rfl⟩) fun r s1 hr => ?_
  match r, hr with
  | .error e, hr => exact hr
  | .ok .next, hr => exact hr.elim
  | .ok .brk, hr => exact hr.elim
  | .ok .cont, hr => exact hr.elim
  | .ok (.ret obj), hr =>
    obtain ⟨rfl, rfl⟩ := hr
    have hS : (s.heap.push (eset w)).get? s.heap.objs.size = some (eset w) := Heap.get?_push_size _ rfl
    have hT : Shared.TypeIs { s with heap := s.heap.push (eset w) } (.ref s.heap.objs.size) "set" := ⟨_, hS, rfl⟩
    have hli := F.called_set.init.lookup
    have hbi := F.called_set.init.bind (.ref s.heap.objs.size)
    repeat (any_goals (first | assumption | wp_step))
    refine codeAny_mono (codeAny_call_builtin (R := wants (fun r s2 => r = .none ∧ Made w ns s s2) E) F.called_set.init.plain F.entry_set_init (check_set_init_1 hT ?_)) fun r2 s2 hr2 => ?_
    · obtain ⟨⟨ocls, odict, odata, oslots⟩, hol, hcl, nl, hdl⟩ := hl
      simp only at hcl hdl
      subst hcl hdl
      have hlS : l < s.heap.objs.size := Heap.lt_size hol
      have hol' := Heap.get?_push_of_some (eset w) hol
      have g1 := F.sub_list_set
      have g2 := F.sub_list_frozenset
      have hne : (Value.type "list" == Value.type "dict") = false := by decide
      have hl1 : (s.heap.push (eset w)).IsList l items := ⟨_, hol', rfl, nl, rfl⟩
      unfold Builtin.«set.__init__» noKeywords Builtin.Frozenset.updateFrom
      generalize hPI : pyIter = PI
      wp_walk
      subst hPI
      refine wpAny_pyIter_list hl1 (wpAny_bind (wpAny_runValue ?_))
      have h3 : A.in1.in1.in1.handled = none := by simp [hh]
      have hsz : (s.heap.push (eset w)).objs.size = s.heap.objs.size + 1 := Heap.size_push ..
      have nI : l ≠ (s.heap.push (eset w)).objs.size := by
        rw [hsz]
        exact Nat.ne_of_lt (Nat.lt_succ_of_lt hlS)
      have nS : s.heap.objs.size ∉ [(s.heap.push (eset w)).objs.size, l] := by
        rw [hsz]
        intro z
        rcases List.mem_cons.mp z with z | z
        · exact absurd z (Nat.ne_of_lt (Nat.lt_succ_self _))
        · exact absurd (List.mem_singleton.mp z) (Nat.ne_of_gt hlS)
      refine set_update_ints ((Walks.list h3 _ l nI items).toS) s.heap.objs.size nS ns isz hb (fun i v hv => ?vals) (items.size - 0) 0 _ (by omega) (Nat.zero_le _) ⟨⟨_, Heap.get?_push_size _ rfl, rfl, rfl⟩, (hl1.push _)⟩ ⟨0, Nat.le_refl 0, setR_new_at (Heap.get?_push_of_some _ hS)⟩ fun s' c hm hc hS' => ?done
      case vals =>
        have hi : i < ns.length := isz ▸ (Array.getElem?_eq_some_iff.mp hv).1
        obtain ⟨t, e⟩ := PyProof.Rows.IntsAre.int_at hit i v (by rw [Array.getElem?_toList]; exact hv)
        exact ⟨ns[i], t, List.getElem?_eq_getElem hi, by rw [e, List.getD_eq_getElem?_getD, List.getElem?_eq_getElem hi]; rfl⟩
      case done =>
        obtain ⟨h', g', d', tk', os'⟩ := s'
        obtain rfl : g' = s.gens := hm.gens
        obtain rfl : d' = s.drawn := hm.drawn
        obtain rfl : os' = s.os := hm.os
        show wpAny _ _ _ _ _ _
        refine wpAny_pure ?_
        show wpAny _ _ (ret Value.none) _ _ _
        refine wpAny_pure ⟨rfl, h', tk', c, rfl, hS', isz ▸ hc, fun b o e => ?_⟩
        have b0 : b < s.heap.objs.size := Heap.lt_size e
        refine hm.heap b o (fun z => ?_) (Heap.get?_push_of_some _ (Heap.get?_push_of_some _ e))
        rcases List.mem_cons.mp z with z | z
        · exact absurd z (Nat.ne_of_lt b0)
        · have z := List.mem_singleton.mp z
          rw [hsz] at z
          exact absurd z (Nat.ne_of_lt (Nat.lt_succ_of_lt b0))
    · match r2, hr2 with
      | .error e, hr2 => exact hr2
      | .ok .next, hr2 => exact hr2.elim
      | .ok .brk, hr2 => exact hr2.elim
      | .ok .cont, hr2 => exact hr2.elim
      | .ok (.ret u), hr2 =>
        obtain ⟨rfl, M⟩ := hr2
        repeat (any_goals (first | assumption | wp_step))
        exact q _ M
end
section
variable {X : Cx}
def rSetL (K : PySem.W.Frag) (w : World) : List V → Hp → VK → Prop := fun xs H Q => ∃ (a : Addr) (ns : List Int), xs = [V.ref a] ∧ SqL K H a (ns.map V.int) ∧ ns.length ≤ 1000 ∧
  ∀ (p : Addr) (c : Nat), c ≤ ns.length → H p = none → Q (.ref p) (upd H p (SetO w p (fun j => decide (j ∈ ns)) c))
theorem cr_setL (hc : X.calm = true) : CallR X (.type "set") (rSetL X.K X.w) := by
  intro pins s σ H vs us Q I r h
  obtain ⟨a, ns, rfl, hL, hlen, q⟩ := h
  rw [Vals.ref1 r]
  obtain ⟨its, rv, pl, _⟩ := I.list hL
  refine set_of_list ns (I.ok.hd hc) pl.isList (by simpa using ints_of_vals rv) (by unfold scanBound; omega) fun s' M => ?_
  obtain ⟨h', tk, c, rfl, hR, hc, hk⟩ := M
  exact ⟨.ref _, _, I.laid (t' := tk) hk (Nat.le_refl _) (setO_new hR), rfl, q _ c hc (I.hok.fresh (Nat.le_refl _))⟩
end
end Lr

set_option Elab.async false
set_option linter.all false
set_option maxRecDepth 100000
set_option maxHeartbeats 4000000
namespace Lr
open PySem PySem.Spec PyProof.Rows L2
/-! ### what a spread has found -/
structure SprAt (S : Stp) (A a0 found : Nat) (seen line : List Nat) : Prop where
  nd : seen.Nodup
  bits : ∀ g, found.testBit g = true ↔ g ∈ seen
  sub : ∀ x ∈ line, x ∈ seen
  sound : ∀ g ∈ seen, ∃ r, a0.testBit r = true ∧ A.testBit r = true ∧ Rch S A r g
  all : ∀ r, a0.testBit r = true → A.testBit r = true → r ∈ seen
theorem SprAt.inA {S : Stp} {A a0 found : Nat} {seen line : List Nat} (h : SprAt S A a0 found seen line) {g : Nat} (hg : g ∈ seen) : A.testBit g = true := by
  obtain ⟨r, _, h2, h3⟩ := h.sound g hg
  rcases h3.tgt with e | e
  · exact e ▸ h2
  · exact e
theorem SprAt.len {S : Stp} {A a0 found n : Nat} {seen line : List Nat} (h : SprAt S A a0 found seen line) (hA : A < 2 ^ n) : seen.length ≤ n := nodup_len h.nd fun _ hg => bit_lt hA (h.inA hg)
theorem SprAt.push {S : Stp} {A a0 found x g : Nat} {seen line : List Nat} (h : SprAt S A a0 found seen line) (hx : x ∈ seen) (e : Edge S x g) (hA : A.testBit g = true) (hg : g ∉ seen) : SprAt S A a0 (found ||| 2 ^ g) (seen ++ [g]) (line ++ [g]) where
  nd := nodup_snoc h.nd hg
  bits := fun y => by
    rw [or_bit, one_bit, h.bits, List.mem_append, List.mem_singleton]
    exact ⟨fun z => z.imp id Eq.symm, fun z => z.imp id Eq.symm⟩
  sub := fun y hy => by
    rcases List.mem_append.mp hy with hy | hy
    · exact List.mem_append_left _ (h.sub y hy)
    · exact List.mem_append_right _ hy
  sound := fun y hy => by
    rcases List.mem_append.mp hy with hy | hy
    · exact h.sound y hy
    · rw [List.mem_singleton.mp hy]
      obtain ⟨r, h1, h2, h3⟩ := h.sound x hx
      exact ⟨r, h1, h2, .snoc h3 e hA⟩
  all := fun r h1 h2 => List.mem_append_left _ (h.all r h1 h2)
/-- all is found -/
theorem SprAt.done {S : Stp} {A a0 found : Nat} {seen line : List Nat} (h : SprAt S A a0 found seen line) (hc : ∀ x ∈ seen, ∀ g, Edge S x g → A.testBit g = true → g ∈ seen) (g : Nat) :
    found.testBit g = true ↔ ∃ r, a0.testBit r = true ∧ A.testBit r = true ∧ Rch S A r g := by
  rw [h.bits]
  refine ⟨h.sound g, fun z => ?_⟩
  obtain ⟨r, h1, h2, h3⟩ := z
  induction h3 with
  | refl => exact h.all _ h1 h2
  | snoc _ e a ih => exact hc _ ih _ e a
theorem snoc_of {l : List Nat} (h : l ≠ []) : ∃ l' x, l = l' ++ [x] := ⟨l.dropLast, l.getLast h, (List.dropLast_concat_getLast h).symm⟩
section
variable {P : Program} {w : World} {K : PySem.W.Frag} {mg : Str → Option Value} {base : Heap} {C : Addr}
theorem sc_spread : FnScope ["machine", "rooms", "allowed", "found", "line", "here", "goal"] ["machine", "rooms", "allowed"] (defScope s_spread) := ⟨rfl, rfl, rfl, by decide +kernel, rfl, by decide +kernel, by decide +kernel⟩
def spSpread (C : Addr) : Sp := fun vs H Q _ => ∃ (m : Addr) (S : Stp) (R : List Nat) (k a0 A : Nat), vs = [.ref m, nV a0, nV A] ∧ Mach C H m S R k ∧ A < 2 ^ S.length ∧
  ∀ (H' : Hp) (b : Nat), Same H H' → (∀ g, b.testBit g = true ↔ ∃ r, a0.testBit r = true ∧ A.testBit r = true ∧ Rch S A r g) → Q (nV b) H'
theorem c_spread (T : Txt K mg C) (F : DefA K mg "spread" s_spread ["machine", "rooms", "allowed"]) (HR : Cal P w K mg base 1 "has_room" spHasRoom) (RO : Cal P w K mg base 1 "rooms_of" spRoomsOf) : Cal P w K mg base 2 "spread" (spSpread C) := by
  refine cal F sc_spread (fun vs H Q E h => ?_) (fun f cdv A' outer s H vs Q E hr h => ?_)
  · obtain ⟨m, S, R, k, a0, A, rfl, _⟩ := h
    rfl
  · obtain ⟨m, S, R, k, a0, A, rfl, M, hA, q⟩ := h
    obtain ⟨W, hRl, dx, ls, lr, m1, m2, m3⟩ := M
    have hn8 := W.n8
    have hA8 : A < 2 ^ 8 := Nat.lt_of_lt_of_le hA (Nat.pow_le_pow_right (by decide) hn8)
    refine ⟨_, pss_cons (ps_set (i := 3) sc_spread.nd rfl (.inl rfl) (pe_op op_andN (pv 1) (pv 2)))
      (pss_cons (ps_set (i := 4) sc_spread.nd rfl (.inl rfl) (C8.pe_c RO hr (by decide) rfl (pa_cons (pv 3) pa_nil)))
      (pss_cons (ps_while PassesOwn.never (pt_cmpR (op_neLI hr.units) (pv 4) (pe_lst pa_nil) (nomark _))
        (pss_cons (ps_set (i := 5) sc_spread.nd rfl (.inl rfl) (pe_bm0 PySem.F.plainAttrs_list PySem.F.slot_list_pop PySem.F.type_list_pop mt_pop (pv 4)))
        (pss_one (ps_for PassesOwn.never rfl (pi_list (pe_ix ix_list (pe_fld (pv 0) rfl) (pv 5) (fun _ _ => rfl))) (pg_name (i := 6) sc_spread.nd rfl (.inl rfl))
          (pss_one (ps_if (PW.pt (pw_and (pt_val (C8.pe_c HR hr (by decide) rfl (pa_cons (pv 2) (pa_cons (pv 6) pa_nil)))) (pw_and1 (pt_not (pt_val (C8.pe_c HR hr (by decide) rfl (pa_cons (pv 3) (pa_cons (pv 6) pa_nil))))))))
            (pss_cons (ps_set (i := 3) sc_spread.nd rfl (.inl rfl) (pe_op op_orN (pv 3) (pe_op op_oneN pe_int (pv 6))))
            (pss_one (ps_expr (pe_bm PySem.F.plainAttrs_list PySem.F.slot_list_append PySem.F.type_list_append mt_append (pv 4) (pa_cons (pv 6) pa_nil)))))
            pss_nil))))))
      (pss_one (ps_ret (pv 3))))), ?_⟩
    -- found = rooms & allowed; line = rooms_of(found)
    have hf8 : a0 &&& A < 2 ^ 8 := Nat.lt_of_le_of_lt Nat.and_le_right hA8
    refine ⟨_, rfl, _, rfl, a0, A, rfl, rfl, _, rfl, a0 &&& A, rfl, hf8, fun H1 ll rs s1 nl hrs hl8 el => ?_⟩
    have st0 : SprAt S A a0 (a0 &&& A) rs rs := by
      refine ⟨pw_nodup hrs.1, fun g => (hrs.2 g).symm, fun x hx => hx, fun g hg => ?_, fun r h1 h2 => ?_⟩
      · obtain ⟨h1, h2⟩ := (and_bit _ _ _).mp ((hrs.2 g).mp hg)
        exact ⟨g, h1, h2, .refl g⟩
      · exact (hrs.2 r).mpr ((and_bit _ _ _).mpr ⟨h1, h2⟩)
    refine ⟨fun μ σ H' => ∃ (found : Nat) (seen line : List Nat) (v5 v6 : Option V), σ = [some (.ref m), some (nV a0), some (nV A), some (nV found), some (.ref ll), v5, v6] ∧ μ = (S.length - seen.length) + line.length ∧ (S.length - seen.length) + line.length ≤ 16 ∧ Same H H' ∧ H' ll = some (.lst (line.map nV)) ∧
        SprAt S A a0 found seen line ∧ ∀ x ∈ seen, x ∉ line → ∀ g, Edge S x g → A.testBit g = true → g ∈ seen,
      ⟨_, a0 &&& A, rs, rs, none, none, rfl, rfl, by omega, s1, el, st0, fun x h1 h2 => absurd h1 h2⟩, ?_⟩
    rintro μ σ H' ⟨found, seen, line, v5, v6, rfl, rfl, h16, sm, hll, st, clo⟩
    -- while line != []
    refine ⟨_, rfl, Nat.zero_le _, fun p np => ?_⟩
    have npH : H p = none := sm.free np
    have sm1 : Same H (upd H' p (.lst [])) := sm.trans (same_upd np)
    have hll1 : (upd H' p (.lst [])) ll = some (.lst (line.map nV)) := by
      rw [upd_ne (ne_of_none hll np)]
      exact hll
    refine ⟨ll, p, line.map fun x : Nat => (x : Int), [], rfl, rfl, SqL.of (by rw [hll1, map_nV]), SqL.of upd_same, _, rfl, ?_⟩
    refine ite2 (fun hne => ?_) (fun hem => ?_)
    · have hne : line ≠ [] := fun e => by
        subst e
        cases hne
      obtain ⟨l', x, rfl⟩ := snoc_of hne
      have hx : x ∈ seen := st.sub x (by simp)
      have hxn : x < S.length := bit_lt hA (st.inA hx)
      have hlen := st.len hA
      generalize hH2 : upd H' p (.lst []) = H2 at sm1 hll1
      refine ⟨fun σ' H'' => ∃ (found' : Nat) (seen' line' : List Nat) (v5 v6 : Option V), σ' = [some (.ref m), some (nV a0), some (nV A), some (nV found'), some (.ref ll), v5, v6] ∧ (S.length - seen'.length) + line'.length + 1 = (S.length - seen.length) + (l' ++ [x]).length ∧ Same H H'' ∧ H'' ll = some (.lst (line'.map nV)) ∧
          SprAt S A a0 found' seen' line' ∧ ∀ x ∈ seen', x ∉ line' → ∀ g, Edge S x g → A.testBit g = true → g ∈ seen',
        fun σ' H'' ⟨f', s', l2, w5, w6, e1, e2, e3, e4, e5, e6⟩ => ⟨_, by omega, f', s', l2, w5, w6, e1, rfl, by omega, e3, e4, e5, e6⟩, ?_⟩
      -- here = line.pop()
      refine ⟨_, rfl, .inl ⟨rfl, _, SqL.of hll1⟩, ll, _, nV x, rfl, rfl, hll1, by simp, ?_⟩
      have edl : ((l' ++ [x]).map nV).dropLast = l'.map nV := by simp
      rw [edl]
      have nll : H ll = none := nl
      have sm3 : Same H (upd H2 ll (.lst (l'.map nV))) := same_put sm1 nll
      -- for goal in machine.steps[here]
      obtain ⟨rsS, ra, row, r1, r2, r3, r4⟩ := m2.row (K := K) hxn
      refine ⟨_, rfl, m, C, dx, _, _, rfl, sm3 _ _ m1, T.cl, T.nS, mf_steps _ _ _ _, _, rfl, ls, _, (x : Int), .ref ra, rfl, rfl, sm3.seq r1, r2, ra, rfl, ⟨_, SqL.of (sm3 _ _ r4)⟩, ?_⟩
      refine for_list (K := K) (a := ra) (xs := row.map nV) (fun i σ H'' => ∃ (found' : Nat) (seen' line' : List Nat) (v6 : Option V), σ = [some (.ref m), some (nV a0), some (nV A), some (nV found'), some (.ref ll), some (nV x), v6] ∧
          (S.length - seen'.length) + line'.length + 1 = (S.length - seen.length) + (l' ++ [x]).length ∧ Same H H'' ∧ H'' ll = some (.lst (line'.map nV)) ∧ SprAt S A a0 found' seen' line' ∧ x ∈ seen' ∧
          (∀ y ∈ seen', y ∉ line' → y ≠ x → ∀ g, Edge S y g → A.testBit g = true → g ∈ seen') ∧ ∀ g ∈ row.take i, A.testBit g = true → g ∈ seen')
        ⟨found, seen, l', v6, rfl, ?_, sm3, upd_same, ?_, hx, ?_, ?_⟩ ?_ ?_ ?_
      · rw [List.length_append, List.length_singleton]
        omega
      · exact ⟨st.nd, st.bits, fun y hy => st.sub y (List.mem_append_left _ hy), st.sound, st.all⟩
      · intro y hy h1 h2
        refine clo y hy fun h => ?_
        rcases List.mem_append.mp h with h | h
        · exact h1 h
        · exact h2 (List.mem_singleton.mp h)
      · intro g hg
        simp at hg
      · rintro i σ H'' _ ⟨_, _, _, _, _, _, sm', _⟩
        exact SqL.of (sm' _ _ r4)
      · rintro i v σ H'' hv ⟨f', s', l2, v6', rfl, eμ, sm', hll', st', hx', clo', hrow⟩
        obtain ⟨g, hg, rfl⟩ := nV_get hv
        have hge : Edge S x g := ⟨row, r3, List.mem_of_getElem? hg⟩
        have hgn : g < S.length := hge.lt W
        have step : ∀ z, z ∈ row.take (i + 1) → z ∈ row.take i ∨ z = g := fun z hz => by
          rw [List.take_add_one, hg, List.mem_append] at hz
          exact hz.imp id fun h => by simpa using h
        -- if has_room(allowed, goal) and not has_room(found, goal)
        refine ⟨_, rfl, _, rfl, A, g, rfl, _, rfl, ite2 (fun ha => ?_) (fun ha => ?_)⟩
        · refine ⟨_, rfl, _, rfl, f', g, rfl, _, rfl, ite2 (fun hf => ?_) (fun hf => ?_)⟩
          · have hgs : g ∉ s' := fun z => by
              rw [(st'.bits g).mpr z] at hf
              cases hf
            refine ⟨_, rfl, _, rfl, g, rfl, rfl, by omega, f', 2 ^ g, rfl, rfl, ?_⟩
            have st2 := st'.push hx' hge ha hgs
            have hlen2 := st2.len hA
            have hlen3 := st'.len hA
            rw [List.length_append, List.length_singleton] at hlen2
            refine ⟨.ref ll, rfl, .inl ⟨rfl, _, SqL.of hll'⟩, _, rfl, ll, _, _, rfl, rfl, hll', ?_, ?_⟩
            · rw [List.length_map]
              exact small1000 (by omega)
            · refine ⟨f' ||| 2 ^ g, s' ++ [g], l2 ++ [g], _, rfl, ?_, same_put sm' nll, ?_, st2, List.mem_append_left _ hx', ?_, ?_⟩
              · rw [List.length_append, List.length_singleton, List.length_append (as := l2), List.length_singleton]
                omega
              · rw [upd_same, List.map_append]
                rfl
              · intro y hy h1 h2 z e hz
                rcases List.mem_append.mp hy with hy | hy
                · exact List.mem_append_left _ (clo' y hy (fun q => h1 (List.mem_append_left _ q)) h2 z e hz)
                · exact absurd (List.mem_append_right _ hy) h1
              · intro z hz haz
                rcases step z hz with h | h
                · exact List.mem_append_left _ (hrow z h haz)
                · rw [h]
                  exact List.mem_append_right _ (List.mem_singleton.mpr rfl)
          · have hgs : g ∈ s' := (st'.bits g).mp (by
              cases q : f'.testBit g with
              | true => rfl
              | false => exact absurd (by rw [q]; rfl) hf)
            refine ⟨f', s', l2, _, rfl, eμ, sm', hll', st', hx', clo', fun z hz haz => ?_⟩
            rcases step z hz with h | h
            · exact hrow z h haz
            · rw [h]
              exact hgs
        · refine iteF ?_
          refine ⟨f', s', l2, _, rfl, eμ, sm', hll', st', hx', clo', fun z hz haz => ?_⟩
          rcases step z hz with h | h
          · exact hrow z h haz
          · exact absurd (h ▸ haz) ha
      · rintro σ H'' ⟨f', s', l2, v6', rfl, eμ, sm', hll', st', hx', clo', hrow⟩
        rw [List.length_map, List.take_length] at hrow
        refine ⟨f', s', l2, _, _, rfl, eμ, sm', hll', st', fun y hy h1 z e hz => ?_⟩
        by_cases hyx : y = x
        · subst hyx
          obtain ⟨row', e1, e2⟩ := e
          rw [r3] at e1
          cases e1
          exact hrow z e2 hz
        · exact clo' y hy h1 hyx z e hz
    · have hem : line = [] := by
        cases line with
        | nil => rfl
        | cons x l => exact absurd (by rfl) hem
      subst hem
      exact ⟨_, rfl, q _ found sm1 (st.done fun x hx g e hg => clo x hx (by simp) g e hg)⟩
/-! ### seen_from, reaching, beyond -/
def full (S : Stp) : Nat := 2 ^ S.length - 1
theorem full_lt (S : Stp) : full S < 2 ^ S.length := Nat.sub_lt (Nat.pow_pos (by decide)) (by decide)
theorem sc_seen_from : FnScope ["machine", "room"] ["machine", "room"] (defScope s_seen_from) := ⟨rfl, rfl, rfl, by decide +kernel, rfl, by decide +kernel, by decide +kernel⟩
def spSeenFrom (C : Addr) : Sp := fun vs H Q _ => ∃ (m : Addr) (S : Stp) (R : List Nat) (k r : Nat), vs = [.ref m, nV r] ∧ Mach C H m S R k ∧ r < S.length ∧
  ∀ (H' : Hp) (b : Nat), Same H H' → (∀ g, b.testBit g = true ↔ Rch S (full S) r g) → Q (nV b) H'
theorem c_seen_from (F : DefA K mg "seen_from" s_seen_from ["machine", "room"]) (SP : Cal P w K mg base 2 "spread" (spSpread C)) (ER : Cal P w K mg base 1 "every_room" (spEveryRoom C)) : Cal P w K mg base 3 "seen_from" (spSeenFrom C) := by
  refine cal F sc_seen_from (fun vs H Q E h => ?_) (fun f cdv A' outer s H vs Q E hr h => ?_)
  · obtain ⟨m, S, R, k, r, rfl, _⟩ := h
    rfl
  · obtain ⟨m, S, R, k, r, rfl, M, hrn, q⟩ := h
    have hn8 := M.1.n8
    refine ⟨_, pss_one (ps_ret (C8.pe_c SP hr (by decide) rfl (pa_cons (pv 0) (pa_cons (pe_op op_oneN pe_int (pv 1)) (pa_cons (C8.pe_c ER hr (by decide) rfl (pa_cons (pv 0) pa_nil)) pa_nil))))), ?_⟩
    refine ⟨_, rfl, _, rfl, r, rfl, rfl, by omega, _, rfl, m, S, R, k, rfl, M, m, S, R, k, 2 ^ r, full S, rfl, M, full_lt S, fun H' b sm hb => q H' b sm fun g => ?_⟩
    rw [hb]
    constructor
    · rintro ⟨r', h1, h2, h3⟩
      rw [(one_bit r r').mp h1]
      exact h3
    · intro h
      exact ⟨r, (one_bit r r).mpr rfl, (full_bit _ _).mpr hrn, h⟩
theorem sc_beyond : FnScope ["machine", "room", "allowed"] ["machine", "room", "allowed"] (defScope s_beyond) := ⟨rfl, rfl, rfl, by decide +kernel, rfl, by decide +kernel, by decide +kernel⟩
def spBeyond (C : Addr) : Sp := fun vs H Q _ => ∃ (m : Addr) (S : Stp) (R : List Nat) (k r A : Nat), vs = [.ref m, nV r, nV A] ∧ Mach C H m S R k ∧ r < S.length ∧ A < 2 ^ S.length ∧
  ∀ (H' : Hp) (b : Nat), Same H H' → (∀ g, b.testBit g = true ↔ Plus S A r g) → Q (nV b) H'
theorem c_beyond (T : Txt K mg C) (F : DefA K mg "beyond" s_beyond ["machine", "room", "allowed"]) (SP : Cal P w K mg base 2 "spread" (spSpread C)) (BO : Cal P w K mg base 1 "bits_of" (spBitsOf K)) : Cal P w K mg base 3 "beyond" (spBeyond C) := by
  refine cal F sc_beyond (fun vs H Q E h => ?_) (fun f cdv A' outer s H vs Q E hr h => ?_)
  · obtain ⟨m, S, R, k, r, A, rfl, _⟩ := h
    rfl
  · obtain ⟨m, S, R, k, r, A, rfl, M, hrn, hA, q⟩ := h
    obtain ⟨W, hRl, dx, ls, lr, m1, m2, m3⟩ := id M
    have hn8 := W.n8
    obtain ⟨rsS, ra, row, r1, r2, r3, r4⟩ := m2.row (K := K) hrn
    refine ⟨_, pss_one (ps_ret (C8.pe_c SP hr (by decide) rfl (pa_cons (pv 0) (pa_cons (C8.pe_c BO hr (by decide) rfl (pa_cons (pe_ix ix_list (pe_fld (pv 0) rfl) (pv 1) (fun _ _ => rfl)) pa_nil)) (pa_cons (pv 2) pa_nil))))), ?_⟩
    have hlt : ∀ x ∈ row, x < S.length := W.lt row (List.mem_of_getElem? r3)
    refine ⟨_, rfl, _, rfl, m, C, dx, _, _, rfl, m1, T.cl, T.nS, mf_steps _ _ _ _, _, rfl, ls, _, (r : Int), .ref ra, rfl, rfl, r1, r2, ra, row, rfl, SqL.of r4, fun x hx => ?_, fun b hb => ?_⟩
    · have := hlt x hx
      omega
    · refine ⟨_, rfl, m, S, R, k, b, A, rfl, M, hA, fun H' b' sm hb' => q H' b' sm fun g => ?_⟩
      rw [hb']
      constructor
      · rintro ⟨x, h1, h2, h3⟩
        exact ⟨x, ⟨row, r3, (hb x).mp h1⟩, h2, h3⟩
      · rintro ⟨x, ⟨row', e1, e2⟩, h2, h3⟩
        rw [r3] at e1
        cases e1
        exact ⟨x, (hb x).mpr e2, h2, h3⟩
theorem sc_reaching : FnScope ["machine", "goals", "found", "room"] ["machine", "goals"] (defScope s_reaching) := ⟨rfl, rfl, rfl, by decide +kernel, rfl, by decide +kernel, by decide +kernel⟩
def spReaching (C : Addr) : Sp := fun vs H Q _ => ∃ (m : Addr) (S : Stp) (R : List Nat) (k a : Nat), vs = [.ref m, nV a] ∧ Mach C H m S R k ∧ a < 2 ^ S.length ∧
  ∀ (H' : Hp) (b : Nat), Same H H' → (∀ g, b.testBit g = true ↔ g < S.length ∧ ∃ x, a.testBit x = true ∧ Rch S (full S) g x) → Q (nV b) H'
theorem c_reaching (T : Txt K mg C) (F : DefA K mg "reaching" s_reaching ["machine", "goals"]) (SF : Cal P w K mg base 3 "seen_from" (spSeenFrom C)) : Cal P w K mg base 4 "reaching" (spReaching C) := by
  refine cal F sc_reaching (fun vs H Q E h => ?_) (fun f cdv A' outer s H vs Q E hr h => ?_)
  · obtain ⟨m, S, R, k, a, rfl, _⟩ := h
    rfl
  · obtain ⟨m, S, R, k, a, rfl, M, ha, q⟩ := h
    obtain ⟨W, hRl, dx, ls, lr, m1, m2, m3⟩ := id M
    have hn8 := W.n8
    refine ⟨_, pss_cons (ps_set (i := 2) sc_reaching.nd rfl (.inl rfl) (pv 1))
      (pss_cons (ps_for PassesOwn.never rfl (pi_range1 rfl T.range (pa_cons (pe_fld (pv 0) rfl) pa_nil)) (pg_name (i := 3) sc_reaching.nd rfl (.inl rfl))
        (pss_one (ps_if (pt_cmpR op_gtM (pe_op op_andN (C8.pe_c SF hr (by decide) rfl (pa_cons (pv 0) (pa_cons (pv 3) pa_nil))) (pv 1)) pe_int (nomark _))
          (pss_one (ps_set (i := 2) sc_reaching.nd rfl (.inl rfl) (pe_op op_orN (pv 2) (pe_op op_oneN pe_int (pv 3))))) pss_nil)))
      (pss_one (ps_ret (pv 2)))), ?_⟩
    refine ⟨_, rfl, _, rfl, m, C, dx, _, _, rfl, m1, T.cl, T.nM, mf_many _ _ _ _, (S.length : Int), rfl, by omega, by omega, ?_⟩
    rw [Int.toNat_natCast]
    refine for_range (lo := 0) (n := S.length) (fun i σ H' => ∃ (b : Nat) (v : Option V), σ = [some (.ref m), some (nV a), some (nV b), v] ∧ Same H H' ∧ ∀ g, b.testBit g = true ↔ a.testBit g = true ∨ (g < i ∧ ∃ x, a.testBit x = true ∧ Rch S (full S) g x))
      ⟨a, none, rfl, Same.refl H, fun g => by simp⟩ ?_ ?_
    · rintro i σ H' hi ⟨b, v, rfl, sm, hb⟩
      have ei : (0 : Int) + (i : Int) = ((i : Nat) : Int) := by omega
      rw [ei]
      refine ⟨_, rfl, _, rfl, m, S, R, k, i, rfl, M.same sm, hi, fun H2 c s2 hc => ?_⟩
      refine ⟨_, rfl, c, a, rfl, rfl, c &&& a, 0, rfl, rfl, _, rfl, ite2 (fun hp => ?_) (fun hp => ?_)⟩
      · have hp : 0 < c &&& a := of_decide_eq_true hp
        obtain ⟨x, hx⟩ := Nat.exists_testBit_of_ne_zero (Nat.ne_of_gt hp)
        obtain ⟨x1, x2⟩ := (and_bit _ _ _).mp hx
        refine ⟨_, rfl, _, rfl, i, rfl, rfl, by omega, b, 2 ^ i, rfl, rfl, b ||| 2 ^ i, _, rfl, sm.trans s2, fun g => ?_⟩
        rw [or_bit, one_bit, hb]
        constructor
        · rintro ((h | ⟨h1, h2⟩) | rfl)
          · exact .inl h
          · exact .inr ⟨by omega, h2⟩
          · exact .inr ⟨by omega, x, x2, (hc x).mp x1⟩
        · rintro (h | ⟨h1, h2⟩)
          · exact .inl (.inl h)
          · by_cases e : g = i
            · exact .inr e.symm
            · exact .inl (.inr ⟨by omega, h2⟩)
      · have hp : ¬ 0 < c &&& a := fun z => hp (decide_eq_true z)
        refine ⟨b, _, rfl, sm.trans s2, fun g => ?_⟩
        rw [hb]
        constructor
        · rintro (h | ⟨h1, h2⟩)
          · exact .inl h
          · exact .inr ⟨by omega, h2⟩
        · rintro (h | ⟨h1, x, h2, h3⟩)
          · exact .inl h
          · by_cases e : g = i
            · subst e
              have z : (c &&& a).testBit x = true := (and_bit _ _ _).mpr ⟨(hc x).mpr h3, h2⟩
              have e0 : c &&& a = 0 := by omega
              rw [e0, Nat.zero_testBit] at z
              cases z
            · exact .inr ⟨by omega, x, h2, h3⟩
    · rintro σ H' ⟨b, v, rfl, sm, hb⟩
      refine ⟨_, rfl, q H' b sm fun g => ?_⟩
      rw [hb]
      constructor
      · rintro (h | h)
        · exact ⟨bit_lt ha h, g, h, .refl g⟩
        · exact h
      · exact .inr
end
end Lr

set_option Elab.async false
set_option linter.all false
set_option maxRecDepth 100000
set_option maxHeartbeats 4000000
namespace Lr
open PySem PySem.Spec PyProof.Rows L2
/-! ### in, not in of numbers in a list -/
theorem inV_nV (a : Nat) : ∀ xs : List Nat, inV (nV a) (xs.map nV) = decide (a ∈ xs)
  | [] => by simp [inV]
  | x :: xs => by
    have ih := inV_nV a xs
    unfold inV at ih ⊢
    rw [List.map_cons, List.any_cons, ih]
    have e : eqV (nV x) (nV a) = decide (x = a) := by
      show ((x : Int) == (a : Int)) = decide (x = a)
      by_cases h : x = a
      · subst h
        simp
      · rw [decide_eq_false h]
        exact beq_eq_false_iff_ne.mpr fun z => h (by omega)
    rw [e]
    by_cases h : x = a
    · subst h
      simp
    · have h' : ¬ a = x := fun z => h z.symm
      simp [h, h']
theorem flat_nV : ∀ xs : List Nat, (xs.map nV).all flatV = true
  | [] => rfl
  | x :: xs => by
    rw [List.map_cons, List.all_cons, flat_nV xs]
    rfl
section
variable {X : Cx}
theorem op_inN : OpR X (compareOp .In) (fun x y H Q => ∃ (a : Nat) (p : Addr) (xs : List Nat), x = nV a ∧ y = .ref p ∧ SqL X.K H p (xs.map nV) ∧ Q (.bl (decide (a ∈ xs))) H) := by
  intro pins s σ H x y v u Q I rx ry h
  obtain ⟨a, p, xs, rfl, rfl, hl, q⟩ := h
  refine op_in_seq pins s σ H _ _ v u Q I rx ry ⟨p, _, rfl, .inl hl, rfl, flat_nV xs, ?_⟩
  rw [inV_nV]
  exact q
theorem op_ninN : OpR X (compareOp .NotIn) (fun x y H Q => ∃ (a : Nat) (p : Addr) (xs : List Nat), x = nV a ∧ y = .ref p ∧ SqL X.K H p (xs.map nV) ∧ Q (.bl (!decide (a ∈ xs))) H) := by
  intro pins s σ H x y v u Q I rx ry h
  obtain ⟨a, p, xs, rfl, rfl, hl, q⟩ := h
  refine op_notIn_seq pins s σ H _ _ v u Q I rx ry ⟨p, _, rfl, .inl hl, rfl, flat_nV xs, ?_⟩
  rw [inV_nV]
  exact q
end
section
variable {P : Program} {w : World} {K : PySem.W.Frag} {mg : Str → Option Value} {base : Heap} {C : Addr}
/-! ### loop_parts -/
abbrev n_loop_parts : List Str := ["machine", "allowed", "parts", "room", "ahead", "part", "one"]
theorem sc_loop_parts : FnScope n_loop_parts ["machine", "allowed"] (defScope s_loop_parts) := ⟨rfl, rfl, rfl, by decide +kernel, rfl, by decide +kernel, by decide +kernel⟩
def spLoopParts (C : Addr) : Sp := fun vs H Q _ => ∃ (m : Addr) (S : Stp) (R : List Nat) (k A : Nat), vs = [.ref m, nV A] ∧ Mach C H m S R k ∧ A < 2 ^ S.length ∧
  ∀ (H' : Hp) (p : Addr) (ps : List Nat), Same H H' → H p = none → H' p = some (.lst (ps.map nV)) → Parts S A ps → ps.length ≤ 8 → Q (.ref p) H'
theorem c_loop_parts (F : DefA K mg "loop_parts" s_loop_parts ["machine", "allowed"]) (HR : Cal P w K mg base 1 "has_room" spHasRoom) (RO : Cal P w K mg base 1 "rooms_of" spRoomsOf) (BO : Cal P w K mg base 1 "bits_of" (spBitsOf K))
    (BE : Cal P w K mg base 3 "beyond" (spBeyond C)) : Cal P w K mg base 4 "loop_parts" (spLoopParts C) := by
  refine cal F sc_loop_parts (fun vs H Q E h => ?_) (fun f cdv A' outer s H vs Q E hr h => ?_)
  · obtain ⟨m, S, R, k, A, rfl, _⟩ := h
    rfl
  · obtain ⟨m, S, R, k, A, rfl, M, hA, q⟩ := h
    have W := M.1
    have hn8 := W.n8
    have pw8 : 2 ^ S.length ≤ 2 ^ 8 := Nat.pow_le_pow_right (by decide) hn8
    refine ⟨_, pss_cons (ps_set (i := 2) sc_loop_parts.nd rfl (.inl rfl) (pe_lst pa_nil))
      (pss_cons (ps_for PassesOwn.never rfl (pi_list (C8.pe_c RO hr (by decide) rfl (pa_cons (pv 1) pa_nil))) (pg_name (i := 3) sc_loop_parts.nd rfl (.inr rfl))
        (pss_cons (ps_set (i := 4) sc_loop_parts.nd rfl (.inl rfl) (C8.pe_c BE hr (by decide) rfl (pa_cons (pv 0) (pa_cons (pv 3) (pa_cons (pv 1) pa_nil)))))
        (pss_one (ps_if (pt_val (C8.pe_c HR hr (by decide) rfl (pa_cons (pv 4) (pa_cons (pv 3) pa_nil))))
          (pss_cons (ps_set (i := 5) sc_loop_parts.nd rfl (.inl rfl) (C8.pe_c BO hr (by decide) rfl (pa_cons
              (pe_lc (own := [("one", 6)]) (g := gName 6) rfl sc_loop_parts.nd (pi_list (C8.pe_c RO hr (by decide) rfl (pa_cons (pv 4) pa_nil)))
                (blkOk_by (own := [("one", 6)]) (N := n_loop_parts) (sc := defScope s_loop_parts) (by decide +kernel))
                (fun _ _ _ _ _ => pg_name (i := 6) sc_loop_parts.nd rfl (.inl rfl))
                (fun _ _ _ _ _ => pts_one (pt_val (C8.pe_c HR hr (by decide) rfl (pa_cons (C8.pe_c BE hr (by decide) rfl (pa_cons (pv 0) (pa_cons (pv 6) (pa_cons (pv 1) pa_nil)))) (pa_cons (pv 3) pa_nil)))))
                (fun _ _ _ _ _ => pv 6)) pa_nil)))
          (pss_one (ps_if (pt_cmpR op_ninN (pv 5) (pv 2) rfl)
            (pss_one (ps_expr (pe_bm PySem.F.plainAttrs_list PySem.F.slot_list_append PySem.F.type_list_append mt_append (pv 2) (pa_cons (pv 5) pa_nil)))) pss_nil)))
          pss_nil))))
      (pss_one (ps_ret (pv 2)))), ?_⟩
    refine ⟨Nat.zero_le _, fun o no => ?_⟩
    refine ⟨_, rfl, A, rfl, by omega, fun H1 rl rs s1 nrl hrs hl8 erl => ⟨rl, rfl, ⟨_, SqL.of erl⟩, ?_⟩⟩
    have sH1 : Same H H1 := (same_upd no).trans s1
    have nro : rl ≠ o := fun e => by
      rw [e, upd_same] at nrl
      cases nrl
    have nrlH : H rl = none := by
      rw [upd_ne nro] at nrl
      exact nrl
    have rsn : ∀ x ∈ rs, x < S.length := fun x hx => bit_lt hA ((hrs.2 x).mp hx)
    refine for_list (K := K) (a := rl) (xs := rs.map nV) (fun i σ H' => ∃ (ps : List Nat) (v3 v4 v5 : Option V), σ = [some (.ref m), some (nV A), some (.ref o), v3, v4, v5, none] ∧ Same H H' ∧ H' rl = some (.lst (rs.map nV)) ∧ H' o = some (.lst (ps.map nV)) ∧
        ps.Nodup ∧ ps.length ≤ i ∧ ∀ p, p ∈ ps ↔ ∃ r ∈ rs.take i, Plus S A r r ∧ Scc S A r p)
      ⟨[], none, none, none, rfl, sH1, erl, s1 _ _ upd_same, List.nodup_nil, Nat.le_refl _, fun p => by simp⟩ (fun i σ H' _ ⟨_, _, _, _, _, _, e, _⟩ => SqL.of e) ?_ ?_
    · rintro i v σ H' hv ⟨ps, v3, v4, v5, rfl, sm, erl', eo, nd, hlen, hm⟩
      obtain ⟨r, hri, rfl⟩ := nV_get hv
      have hi8 : i < 8 := by
        have := (List.getElem?_eq_some_iff.mp hri).1
        omega
      have hrn : r < S.length := rsn r (List.mem_of_getElem? hri)
      have hrA : A.testBit r = true := (hrs.2 r).mp (List.mem_of_getElem? hri)
      have stepP : ∀ (Z : Nat → Prop), (∃ x ∈ rs.take (i + 1), Z x) ↔ (∃ x ∈ rs.take i, Z x) ∨ Z r := fun Z => by
        rw [List.take_add_one, hri]
        constructor
        · rintro ⟨x, hx, z⟩
          rcases List.mem_append.mp hx with hx | hx
          · exact .inl ⟨x, hx, z⟩
          · have e : x = r := by simpa using hx
            exact .inr (e ▸ z)
        · rintro (⟨x, hx, z⟩ | z)
          · exact ⟨x, List.mem_append_left _ hx, z⟩
          · exact ⟨r, List.mem_append_right _ (by simp), z⟩
      -- ahead = beyond(machine, room, allowed)
      refine ⟨_, rfl, _, rfl, _, rfl, m, S, R, k, r, A, rfl, M.same sm, hrn, hA, fun H2 ah s2 hah => ?_⟩
      have ahn : ah < 2 ^ S.length := lt_of_bits fun g hg => ((hah g).mp hg).lt W
      refine ⟨_, rfl, _, rfl, ah, r, rfl, _, rfl, ite2 (fun hb => ?_) (fun hb => ?_)⟩
      · have hrr : Plus S A r r := (hah r).mp hb
        have sm2 : Same H H2 := sm.trans s2
        -- rooms_of(ahead)
        refine ⟨_, rfl, ah, rfl, by omega, fun H3 al as s3 nal has hal8 eal => ⟨al, rfl, ⟨_, SqL.of eal⟩, fun D nD => ?_⟩⟩
        have sm3 : Same H H3 := sm2.trans s3
        have nDal : al ≠ D := ne_of_none eal nD
        refine lc_list (K := K) (a := al) (xs := as.map nV) (fun j H'' => ∃ sel : List Nat, Same H3 H'' ∧ H'' D = some (.lst (sel.map nV)) ∧ sel.length ≤ j ∧ ∀ y, y ∈ sel ↔ y ∈ as.take j ∧ Plus S A y r)
          ⟨[], same_upd nD, upd_same, Nat.le_refl _, fun y => by simp⟩ (fun j H'' _ ⟨_, s', _⟩ => SqL.of (s' _ _ eal)) ?_ ?_
        · rintro j v H'' hv ⟨sel, s', eD, hsl, hsel⟩
          obtain ⟨y, hyj, rfl⟩ := nV_get hv
          have hyn : y < S.length := ((hah y).mp ((has.2 y).mp (List.mem_of_getElem? hyj))).lt W
          have hj8 : j < 8 := by
            have := (List.getElem?_eq_some_iff.mp hyj).1
            omega
          have stepj : ∀ z, z ∈ as.take (j + 1) ↔ z ∈ as.take j ∨ z = y := fun z => by
            rw [List.take_add_one, hyj, List.mem_append]
            simp
          refine ⟨rfl, _, rfl, _, rfl, _, rfl, m, S, R, k, y, A, rfl, M.same (sm3.trans s'), hyn, hA, fun H4 c s4 hc => ?_⟩
          refine ⟨_, rfl, c, r, rfl, _, rfl, ite2 (fun hb => ?_) (fun hb => ?_)⟩
          · refine ⟨_, rfl, _, s4 _ _ eD, ?_, sel ++ [y], ?_, ?_, ?_, fun z => ?_⟩
            · rw [List.length_map]
              exact small1000 (by omega)
            · exact same_put (s'.trans s4) nD
            · rw [upd_same, List.map_append]
              rfl
            · rw [List.length_append, List.length_singleton]
              omega
            · rw [List.mem_append, hsel, stepj, List.mem_singleton]
              have := (hc r).mp hb
              constructor
              · rintro (⟨h1, h2⟩ | rfl)
                · exact ⟨.inl h1, h2⟩
                · exact ⟨.inr rfl, this⟩
              · rintro ⟨h1 | rfl, h2⟩
                · exact .inl ⟨h1, h2⟩
                · exact .inr rfl
          · refine ⟨sel, s'.trans s4, s4 _ _ eD, by omega, fun z => ?_⟩
            rw [hsel, stepj]
            constructor
            · rintro ⟨h1, h2⟩
              exact ⟨.inl h1, h2⟩
            · rintro ⟨h1 | rfl, h2⟩
              · exact ⟨h1, h2⟩
              · exact absurd ((hc r).mpr h2) hb
        · rintro H'' ⟨sel, s', eD, hsl, hsel⟩
          rw [List.length_map] at hsl hsel
          have hselb : ∀ y, y ∈ sel ↔ Plus S A r y ∧ Plus S A y r := fun y => by
            rw [hsel, List.take_length, has.2, hah]
          refine ⟨D, sel, rfl, SqL.of eD, fun y hy => ?_, fun pt hpt => ?_⟩
          · have := ((hselb y).mp hy).1.lt W
            omega
          · have hscc : Scc S A r pt := fun y => by rw [hpt, hselb]
            have sm' : Same H H'' := sm3.trans s'
            have eo2 : H'' o = some (.lst (ps.map nV)) := s' _ _ (s3 _ _ (s2 _ _ eo))
            have erl2 : H'' rl = some (.lst (rs.map nV)) := s' _ _ (s3 _ _ (s2 _ _ erl'))
            refine ⟨_, rfl, _, rfl, pt, o, ps, rfl, rfl, SqL.of eo2, _, rfl, ite2 (fun hn => ?_) (fun hn => ?_)⟩
            · have hn : pt ∉ ps := by simpa using hn
              refine ⟨.ref o, rfl, .inl ⟨rfl, _, SqL.of eo2⟩, _, rfl, o, _, _, rfl, rfl, eo2, ?_, ?_⟩
              · rw [List.length_map]
                exact small1000 (by omega)
              · refine ⟨ps ++ [pt], _, _, _, rfl, same_put sm' no, ?_, ?_, nodup_snoc nd hn, ?_, fun p => ?_⟩
                · rw [upd_ne nro]
                  exact erl2
                · rw [upd_same, List.map_append]
                  rfl
                · rw [List.length_append, List.length_singleton]
                  omega
                · rw [List.mem_append, hm, stepP, List.mem_singleton]
                  constructor
                  · rintro (h | rfl)
                    · exact .inl h
                    · exact .inr ⟨hrr, hscc⟩
                  · rintro (h | ⟨_, h⟩)
                    · exact .inl h
                    · exact .inr (bits_eq fun y => by rw [h y, hscc y])
            · have hn : pt ∈ ps := by simpa using hn
              refine ⟨ps, _, _, _, rfl, sm', erl2, eo2, nd, by omega, fun p => ?_⟩
              rw [hm, stepP]
              constructor
              · exact .inl
              · rintro (h | ⟨_, h⟩)
                · exact h
                · have e : p = pt := bits_eq fun y => by rw [h y, hscc y]
                  rw [e]
                  exact (hm pt).mp hn
      · refine ⟨ps, _, _, _, rfl, sm.trans s2, s2 _ _ erl', s2 _ _ eo, nd, by omega, fun p => ?_⟩
        rw [hm, stepP]
        constructor
        · exact .inl
        · rintro (h | ⟨h, _⟩)
          · exact h
          · exact absurd ((hah r).mpr h) hb
    · rintro σ H' ⟨ps, v3, v4, v5, rfl, sm, erl', eo, nd, hlen, hm⟩
      rw [List.length_map] at hlen hm
      refine ⟨_, rfl, q H' o ps sm no eo ⟨nd, fun p => ?_⟩ (by omega)⟩
      rw [hm, List.take_length]
      constructor
      · rintro ⟨r, h1, h2⟩
        exact ⟨r, (hrs.2 r).mp h1, h2⟩
      · rintro ⟨r, h1, h2⟩
        exact ⟨r, (hrs.2 r).mpr h1, h2⟩
end
end Lr

set_option Elab.async false
set_option linter.all false
set_option maxRecDepth 100000
set_option maxHeartbeats 4000000
namespace Lr
open PySem PySem.Spec PyProof.Rows L2
/-- the rank of a room -/
def rk (R : List Nat) (r : Nat) : Nat := R.getD r 0
theorem rk_at {R : List Nat} {r : Nat} (h : r < R.length) : R[r]? = some (rk R r) := by
  unfold rk
  rw [List.getD_eq_getElem?_getD, List.getElem?_eq_getElem h]
  rfl
theorem rk_atI {R : List Nat} {r : Nat} (h : r < R.length) : atI (R.map nV) (r : Int) = some (nV (rk R r)) := atI_nat (get_nV (rk_at h))
/-- the turn's item behind the items ahead -/
theorem take_step {l : List Nat} {i y : Nat} (h : l[i]? = some y) (z : Nat) : z ∈ l.take (i + 1) ↔ z ∈ l.take i ∨ z = y := by
  rw [List.take_add_one, h, List.mem_append]
  simp
theorem ex_step {l : List Nat} {i y : Nat} (h : l[i]? = some y) (Z : Nat → Prop) : (∃ x ∈ l.take (i + 1), Z x) ↔ (∃ x ∈ l.take i, Z x) ∨ Z y := by
  constructor
  · rintro ⟨x, hx, z⟩
    rcases (take_step h x).mp hx with hx | rfl
    · exact .inl ⟨x, hx, z⟩
    · exact .inr z
  · rintro (⟨x, hx, z⟩ | z)
    · exact ⟨x, (take_step h x).mpr (.inl hx), z⟩
    · exact ⟨y, (take_step h y).mpr (.inr rfl), z⟩
theorem lt_len {α : Type} {l : List α} {i : Nat} {y : α} (h : l[i]? = some y) : i < l.length := (List.getElem?_eq_some_iff.mp h).1
/-- a greatest rank, by the ranks' list -/
theorem top_of {R : List Nat} {L t n : Nat} {rs : List Nat} (hrs : ∀ r, r ∈ rs ↔ L.testBit r = true) (hR : R.length = n) (hn : ∀ r ∈ rs, r < n) (h1 : t ∈ rs.map (rk R)) (h2 : ∀ x ∈ rs.map (rk R), x ≤ t) : Top R L t := by
  constructor
  · obtain ⟨r, hr, e⟩ := List.mem_map.mp h1
    exact ⟨r, (hrs r).mp hr, by rw [rk_at (by rw [hR]; exact hn r hr), e]⟩
  · intro r x hr hx
    have hr' := (hrs r).mpr hr
    rw [rk_at (by rw [hR]; exact hn r hr')] at hx
    cases hx
    exact h2 _ (List.mem_map.mpr ⟨r, hr', rfl⟩)
section
variable {P : Program} {w : World} {K : PySem.W.Frag} {mg : Str → Option Value} {base : Heap} {C : Addr}
/-! ### is_loop, top_rank -/
theorem sc_is_loop : FnScope ["machine", "bits"] ["machine", "bits"] (defScope s_is_loop) := ⟨rfl, rfl, rfl, by decide +kernel, rfl, by decide +kernel, by decide +kernel⟩
def spIsLoop (C : Addr) : Sp := fun vs H Q _ => ∃ (m : Addr) (S : Stp) (R : List Nat) (k L : Nat), vs = [.ref m, nV L] ∧ Mach C H m S R k ∧ Loop S L ∧ ∀ H' : Hp, Same H H' → Q (.bl true) H'
theorem c_is_loop (F : DefA K mg "is_loop" s_is_loop ["machine", "bits"]) (LP : Cal P w K mg base 4 "loop_parts" (spLoopParts C)) : Cal P w K mg base 5 "is_loop" (spIsLoop C) := by
  refine cal F sc_is_loop (fun vs H Q E h => ?_) (fun f cdv A' outer s H vs Q E hr h => ?_)
  · obtain ⟨m, S, R, k, L, rfl, _⟩ := h
    rfl
  · obtain ⟨m, S, R, k, L, rfl, M, hL, q⟩ := h
    refine ⟨_, pss_one (ps_ret (pe_cmpR (op_eqLI hr.units) (C8.pe_c LP hr (by decide) rfl (pa_cons (pv 0) (pa_cons (pv 1) pa_nil))) (pe_lst (pa_cons (pv 1) pa_nil)) (nomark _))), ?_⟩
    refine ⟨_, rfl, _, rfl, m, S, R, k, L, rfl, M, hL.bd M.1, fun H1 p ps s1 np ep hps _ => ?_⟩
    have e := hps.of_loop hL
    subst e
    refine ⟨_, rfl, by show 1 ≤ sizeLine; decide, fun d nd => ?_⟩
    refine ⟨p, d, [(L : Int)], [(L : Int)], rfl, rfl, SqL.of ?_, SqL.of upd_same, ?_⟩
    · rw [upd_ne (ne_of_none ep nd)]
      exact ep
    · rw [decide_eq_true rfl]
      exact q _ (s1.trans (same_upd nd))
abbrev n_top_rank : List Str := ["machine", "bits", "room"]
theorem sc_top_rank : FnScope n_top_rank ["machine", "bits"] (defScope s_top_rank) := ⟨rfl, rfl, rfl, by decide +kernel, rfl, by decide +kernel, by decide +kernel⟩
def spTopRank (C : Addr) : Sp := fun vs H Q _ => ∃ (m : Addr) (S : Stp) (R : List Nat) (k L : Nat), vs = [.ref m, nV L] ∧ Mach C H m S R k ∧ L ≠ 0 ∧ L < 2 ^ S.length ∧ ∀ (H' : Hp) (t : Nat), Same H H' → Top R L t → Q (nV t) H'
theorem c_top_rank (T : Txt K mg C) (F : DefA K mg "top_rank" s_top_rank ["machine", "bits"]) (RO : Cal P w K mg base 1 "rooms_of" spRoomsOf) : Cal P w K mg base 2 "top_rank" (spTopRank C) := by
  refine cal F sc_top_rank (fun vs H Q E h => ?_) (fun f cdv A' outer s H vs Q E hr h => ?_)
  · obtain ⟨m, S, R, k, L, rfl, _⟩ := h
    rfl
  · obtain ⟨m, S, R, k, L, rfl, M, hL0, hL, q⟩ := h
    obtain ⟨W, hRl, dx, ls, lr, m1, m2, m3⟩ := id M
    have hn8 := W.n8
    have pw8 : 2 ^ S.length ≤ 2 ^ 8 := Nat.pow_le_pow_right (by decide) hn8
    refine ⟨_, pss_cons (ps_if (pt_cmpR op_eqM (pv 1) pe_int (nomark _)) (pss_one ps_never) pss_nil)
      (pss_one (ps_ret (pe_callB (cr_max rfl) (by rfl) T.max (by decide +kernel) (pa_cons
        (pe_lc (own := [("room", 2)]) (g := gName 2) (te := tOp (rIxL K) (tFld K (tVar 0) ("ranks" : Str)) (tVar 2)) rfl sc_top_rank.nd (pi_list (C8.pe_c RO hr (by decide) rfl (pa_cons (pv 1) pa_nil)))
          (blkOk_by (own := [("room", 2)]) (N := n_top_rank) (sc := defScope s_top_rank) (by decide +kernel))
          (fun _ _ _ _ _ => pg_name (i := 2) sc_top_rank.nd rfl (.inl rfl)) (fun _ _ _ _ _ => pts_nil)
          (fun _ _ _ _ _ => pe_ix ix_list (pe_fld (pv 0) rfl) (pv 2) (fun _ _ => rfl))) pa_nil)))), ?_⟩
    refine ⟨_, rfl, L, 0, rfl, rfl, _, rfl, ?_⟩
    rw [decide_eq_false hL0]
    refine iteF ⟨_, rfl, L, rfl, by omega, fun H1 rl rs s1 nrl hrs hl8 erl => ⟨rl, rfl, ⟨_, SqL.of erl⟩, fun D nD => ?_⟩⟩
    have rsn : ∀ x ∈ rs, x < S.length := fun x hx => bit_lt hL ((hrs.2 x).mp hx)
    refine lc_list (K := K) (a := rl) (xs := rs.map nV) (fun i H' => Same H1 H' ∧ H' D = some (.lst (((rs.take i).map (rk R)).map nV)))
      ⟨same_upd nD, upd_same⟩ (fun i H' _ ⟨s', _⟩ => SqL.of (s' _ _ erl)) ?_ ?_
    · rintro i v H' hv ⟨s', eD⟩
      obtain ⟨r, hri, rfl⟩ := nV_get hv
      have hi := lt_len hri
      have hrn := rsn r (List.mem_of_getElem? hri)
      have sH : Same H H' := s1.trans s'
      refine ⟨rfl, _, rfl, m, C, dx, _, _, rfl, sH _ _ m1, T.cl, T.nR, mf_ranks _ _ _ _, _, rfl, lr, _, (r : Int), _, rfl, rfl, SqL.of (sH _ _ m3), rk_atI (by omega), _, eD, ?_, ?_, ?_⟩
      · rw [List.length_map, List.length_map, List.length_take]
        exact small1000 (by omega)
      · exact same_put s' nD
      · rw [upd_same, List.take_add_one, hri, List.map_append, List.map_append]
        rfl
    · rintro H' ⟨s', eD⟩
      rw [List.length_map, List.take_length] at eD
      obtain ⟨r0, hr0⟩ := Nat.exists_testBit_of_ne_zero hL0
      refine ⟨D, ((rs.map (rk R)).map fun x : Nat => (x : Int)), rfl, SqL.of (by rw [eD, map_nV]), ?_, fun t ht hle => ?_⟩
      · rw [List.length_map, List.length_map]
        exact List.length_pos_of_mem ((hrs.2 r0).mpr hr0)
      · obtain ⟨t', ht', rfl⟩ := List.mem_map.mp ht
        refine q H' t' (s1.trans s') (top_of hrs.2 hRl rsn ht' fun x hx => ?_)
        have := hle x (List.mem_map.mpr ⟨x, hx, rfl⟩)
        omega
/-! ### up_to_rank, parts_of_rank -/
abbrev n_up_to_rank : List Str := ["machine", "allowed", "rank", "room"]
theorem sc_up_to_rank : FnScope n_up_to_rank ["machine", "allowed", "rank"] (defScope s_up_to_rank) := ⟨rfl, rfl, rfl, by decide +kernel, rfl, by decide +kernel, by decide +kernel⟩
def spUpToRank (C : Addr) : Sp := fun vs H Q _ => ∃ (m : Addr) (S : Stp) (R : List Nat) (k t : Nat), vs = [.ref m, nV (full S), nV t] ∧ Mach C H m S R k ∧ ∀ (H' : Hp) (A : Nat), Same H H' → UpTo R S.length t A → Q (nV A) H'
theorem c_up_to_rank (T : Txt K mg C) (F : DefA K mg "up_to_rank" s_up_to_rank ["machine", "allowed", "rank"]) (RO : Cal P w K mg base 1 "rooms_of" spRoomsOf) (BO : Cal P w K mg base 1 "bits_of" (spBitsOf K)) : Cal P w K mg base 2 "up_to_rank" (spUpToRank C) := by
  refine cal F sc_up_to_rank (fun vs H Q E h => ?_) (fun f cdv A' outer s H vs Q E hr h => ?_)
  · obtain ⟨m, S, R, k, t, rfl, _⟩ := h
    rfl
  · obtain ⟨m, S, R, k, t, rfl, M, q⟩ := h
    obtain ⟨W, hRl, dx, ls, lr, m1, m2, m3⟩ := id M
    have hn8 := W.n8
    have pw8 : 2 ^ S.length ≤ 2 ^ 8 := Nat.pow_le_pow_right (by decide) hn8
    have hfl := full_lt S
    refine ⟨_, pss_one (ps_ret (C8.pe_c BO hr (by decide) rfl (pa_cons
        (pe_lc (own := [("room", 3)]) (g := gName 3) (tt := tTest (tOp rLeM (tOp (rIxL K) (tFld K (tVar 0) ("ranks" : Str)) (tVar 3)) (tVar 2))) rfl sc_up_to_rank.nd (pi_list (C8.pe_c RO hr (by decide) rfl (pa_cons (pv 1) pa_nil)))
          (blkOk_by (own := [("room", 3)]) (N := n_up_to_rank) (sc := defScope s_up_to_rank) (by decide +kernel))
          (fun _ _ _ _ _ => pg_name (i := 3) sc_up_to_rank.nd rfl (.inl rfl))
          (fun _ _ _ _ _ => pts_one (pt_cmpR op_leM (pe_ix ix_list (pe_fld (pv 0) rfl) (pv 3) (fun _ _ => rfl)) (pv 2) (nomark _)))
          (fun _ _ _ _ _ => pv 3)) pa_nil))), ?_⟩
    refine ⟨_, rfl, full S, rfl, by omega, fun H1 rl rs s1 nrl hrs hl8 erl => ⟨rl, rfl, ⟨_, SqL.of erl⟩, fun D nD => ?_⟩⟩
    have rsn : ∀ x ∈ rs, x < S.length := fun x hx => (full_bit _ _).mp ((hrs.2 x).mp hx)
    refine lc_list (K := K) (a := rl) (xs := rs.map nV) (fun i H' => ∃ sel : List Nat, Same H1 H' ∧ H' D = some (.lst (sel.map nV)) ∧ sel.length ≤ i ∧ ∀ y, y ∈ sel ↔ y ∈ rs.take i ∧ rk R y ≤ t)
      ⟨[], same_upd nD, upd_same, Nat.le_refl _, fun y => by simp⟩ (fun i H' _ ⟨_, s', _⟩ => SqL.of (s' _ _ erl)) ?_ ?_
    · rintro i v H' hv ⟨sel, s', eD, hsl, hsel⟩
      obtain ⟨r, hri, rfl⟩ := nV_get hv
      have hi := lt_len hri
      have hrn := rsn r (List.mem_of_getElem? hri)
      have sH : Same H H' := s1.trans s'
      refine ⟨rfl, _, rfl, m, C, dx, _, _, rfl, sH _ _ m1, T.cl, T.nR, mf_ranks _ _ _ _, _, rfl, lr, _, (r : Int), _, rfl, rfl, SqL.of (sH _ _ m3), rk_atI (by omega), _, rfl, rk R r, t, rfl, rfl, _, rfl, ite2 (fun hb => ?_) (fun hb => ?_)⟩
      · have hb : rk R r ≤ t := of_decide_eq_true hb
        refine ⟨_, rfl, _, eD, ?_, sel ++ [r], same_put s' nD, ?_, ?_, fun z => ?_⟩
        · rw [List.length_map]
          exact small1000 (by omega)
        · rw [upd_same, List.map_append]
          rfl
        · rw [List.length_append, List.length_singleton]
          omega
        · rw [List.mem_append, hsel, take_step hri, List.mem_singleton]
          constructor
          · rintro (⟨h1, h2⟩ | rfl)
            · exact ⟨.inl h1, h2⟩
            · exact ⟨.inr rfl, hb⟩
          · rintro ⟨h1 | rfl, h2⟩
            · exact .inl ⟨h1, h2⟩
            · exact .inr rfl
      · have hb : ¬ rk R r ≤ t := fun z => hb (decide_eq_true z)
        refine ⟨sel, s', eD, by omega, fun z => ?_⟩
        rw [hsel, take_step hri]
        constructor
        · rintro ⟨h1, h2⟩
          exact ⟨.inl h1, h2⟩
        · rintro ⟨h1 | rfl, h2⟩
          · exact ⟨h1, h2⟩
          · exact absurd h2 hb
    · rintro H' ⟨sel, s', eD, hsl, hsel⟩
      rw [List.length_map, List.take_length] at hsel
      refine ⟨D, sel, rfl, SqL.of eD, fun y hy => ?_, fun b hb => q H' b (s1.trans s') fun y => ?_⟩
      · have := rsn y ((hsel y).mp hy).1
        omega
      · rw [hb, hsel, hrs.2, show (full S).testBit y = true ↔ y < S.length from full_bit _ _]
        constructor
        · rintro ⟨h1, h2⟩
          exact ⟨h1, _, rk_at (by omega), h2⟩
        · rintro ⟨h1, x, h2, h3⟩
          rw [rk_at (by omega)] at h2
          cases h2
          exact ⟨h1, h3⟩
abbrev n_parts_of_rank : List Str := ["machine", "allowed", "rank", "parts", "part"]
theorem sc_parts_of_rank : FnScope n_parts_of_rank ["machine", "allowed", "rank"] (defScope s_parts_of_rank) := ⟨rfl, rfl, rfl, by decide +kernel, rfl, by decide +kernel, by decide +kernel⟩
def spPartsOfRank (C : Addr) : Sp := fun vs H Q _ => ∃ (m : Addr) (S : Stp) (R : List Nat) (k t : Nat), vs = [.ref m, nV (full S), nV t] ∧ Mach C H m S R k ∧
  ∀ (H' : Hp) (p : Addr) (qs : List Nat) (A : Nat) (ps : List Nat), Same H H' → H' p = some (.lst (qs.map nV)) → UpTo R S.length t A → Parts S A ps → (∀ x, x ∈ qs ↔ x ∈ ps ∧ Top R x t) → Q (.ref p) H'
theorem c_parts_of_rank (F : DefA K mg "parts_of_rank" s_parts_of_rank ["machine", "allowed", "rank"]) (LP : Cal P w K mg base 4 "loop_parts" (spLoopParts C)) (UR : Cal P w K mg base 2 "up_to_rank" (spUpToRank C)) (TR : Cal P w K mg base 2 "top_rank" (spTopRank C)) :
    Cal P w K mg base 5 "parts_of_rank" (spPartsOfRank C) := by
  refine cal F sc_parts_of_rank (fun vs H Q E h => ?_) (fun f cdv A' outer s H vs Q E hr h => ?_)
  · obtain ⟨m, S, R, k, t, rfl, _⟩ := h
    rfl
  · obtain ⟨m, S, R, k, t, rfl, M, q⟩ := h
    obtain ⟨W, hRl, dx, ls, lr, m1, m2, m3⟩ := id M
    refine ⟨_, pss_cons (ps_set (i := 3) sc_parts_of_rank.nd rfl (.inl rfl) (C8.pe_c LP hr (by decide) rfl (pa_cons (pv 0) (pa_cons (C8.pe_c UR hr (by decide) rfl (pa_cons (pv 0) (pa_cons (pv 1) (pa_cons (pv 2) pa_nil)))) pa_nil))))
      (pss_one (ps_ret (pe_lc (own := [("part", 4)]) (g := gName 4) rfl sc_parts_of_rank.nd (pi_list (pv 3))
          (blkOk_by (own := [("part", 4)]) (N := n_parts_of_rank) (sc := defScope s_parts_of_rank) (by decide +kernel))
          (fun _ _ _ _ _ => pg_name (i := 4) sc_parts_of_rank.nd rfl (.inl rfl))
          (fun _ _ _ _ _ => pts_one (pt_cmpR op_eqM (C8.pe_c TR hr (by decide) rfl (pa_cons (pv 0) (pa_cons (pv 4) pa_nil))) (pv 2) (nomark _)))
          (fun _ _ _ _ _ => pv 4)))), ?_⟩
    refine ⟨_, rfl, _, rfl, _, rfl, _, rfl, m, S, R, k, t, rfl, M, fun H1 A s1 hA => ?_⟩
    have hAl : A < 2 ^ S.length := lt_of_bits fun r h => ((hA r).mp h).1
    refine ⟨m, S, R, k, A, rfl, M.same s1, hAl, fun H2 pl ps s2 npl epl hps hp8 => ?_⟩
    refine ⟨_, rfl, pl, rfl, ⟨_, SqL.of epl⟩, fun D nD => ?_⟩
    have sH2 : Same H H2 := s1.trans s2
    refine lc_list (K := K) (a := pl) (xs := ps.map nV) (fun i H' => ∃ sel : List Nat, Same H2 H' ∧ H' D = some (.lst (sel.map nV)) ∧ sel.length ≤ i ∧ ∀ y, y ∈ sel ↔ y ∈ ps.take i ∧ Top R y t)
      ⟨[], same_upd nD, upd_same, Nat.le_refl _, fun y => by simp⟩ (fun i H' _ ⟨_, s', _⟩ => SqL.of (s' _ _ epl)) ?_ ?_
    · rintro i v H' hv ⟨sel, s', eD, hsl, hsel⟩
      obtain ⟨p, hpi, rfl⟩ := nV_get hv
      have hi := lt_len hpi
      have hpL : Loop S p := hps.loop (List.mem_of_getElem? hpi)
      have hp0 : p ≠ 0 := fun e => by
        obtain ⟨r, hr'⟩ := hpL.ne
        rw [e, Nat.zero_testBit] at hr'
        cases hr'
      refine ⟨rfl, _, rfl, _, rfl, m, S, R, k, p, rfl, M.same (sH2.trans s'), hp0, hpL.bd W, fun H3 u s3 hu => ?_⟩
      refine ⟨_, rfl, u, t, rfl, rfl, _, rfl, ite2 (fun hb => ?_) (fun hb => ?_)⟩
      · have hb : u = t := of_decide_eq_true hb
        refine ⟨_, rfl, _, s3 _ _ eD, ?_, sel ++ [p], same_put (s'.trans s3) nD, ?_, ?_, fun z => ?_⟩
        · rw [List.length_map]
          exact small1000 (by omega)
        · rw [upd_same, List.map_append]
          rfl
        · rw [List.length_append, List.length_singleton]
          omega
        · rw [List.mem_append, hsel, take_step hpi, List.mem_singleton]
          constructor
          · rintro (⟨h1, h2⟩ | rfl)
            · exact ⟨.inl h1, h2⟩
            · exact ⟨.inr rfl, hb ▸ hu⟩
          · rintro ⟨h1 | rfl, h2⟩
            · exact .inl ⟨h1, h2⟩
            · exact .inr rfl
      · have hb : ¬ u = t := fun z => hb (decide_eq_true z)
        refine ⟨sel, s'.trans s3, s3 _ _ eD, by omega, fun z => ?_⟩
        rw [hsel, take_step hpi]
        constructor
        · rintro ⟨h1, h2⟩
          exact ⟨.inl h1, h2⟩
        · rintro ⟨h1 | rfl, h2⟩
          · exact ⟨h1, h2⟩
          · exact absurd (hu.one h2) hb
    · rintro H' ⟨sel, s', eD, hsl, hsel⟩
      rw [List.length_map, List.take_length] at hsel
      exact q H' D sel A ps (sH2.trans s') eD hA hps hsel
/-! ### rooms_on_loops, dead_rooms, sure_rooms -/
abbrev n_rooms_on_loops : List Str := ["machine", "wanted", "found", "rank", "part"]
theorem sc_rooms_on_loops : FnScope n_rooms_on_loops ["machine", "wanted"] (defScope s_rooms_on_loops) := ⟨rfl, rfl, rfl, by decide +kernel, rfl, by decide +kernel, by decide +kernel⟩
def spOnLoops (C : Addr) : Sp := fun vs H Q _ => ∃ (m : Addr) (S : Stp) (R : List Nat) (k : Nat) (wanted : Bool), vs = [.ref m, .bl wanted] ∧ Mach C H m S R k ∧
  ∀ (H' : Hp) (b : Nat), Same H H' → (∀ g, b.testBit g = true ↔ ∃ L, Sort' S R wanted L ∧ L.testBit g = true) → Q (nV b) H'
theorem bl_eq (a b : Bool) : decide (V.bl a = V.bl b) = decide (a = b) := by
  cases a <;> cases b <;> rfl
theorem c_rooms_on_loops (T : Txt K mg C) (F : DefA K mg "rooms_on_loops" s_rooms_on_loops ["machine", "wanted"]) (PR : Cal P w K mg base 5 "parts_of_rank" (spPartsOfRank C)) (ER : Cal P w K mg base 1 "every_room" (spEveryRoom C)) :
    Cal P w K mg base 6 "rooms_on_loops" (spOnLoops C) := by
  refine cal F sc_rooms_on_loops (fun vs H Q E h => ?_) (fun f cdv A' outer s H vs Q E hr h => ?_)
  · obtain ⟨m, S, R, k, wanted, rfl, _⟩ := h
    rfl
  · obtain ⟨m, S, R, k, wanted, rfl, M, q⟩ := h
    obtain ⟨W, hRl, dx, ls, lr, m1, m2, m3⟩ := id M
    have hn8 := W.n8
    refine ⟨_, pss_cons (ps_set (i := 2) sc_rooms_on_loops.nd rfl (.inl rfl) pe_int)
      (pss_cons (ps_for PassesOwn.never rfl (pi_list (pe_callB (cr_sortedSet rfl) (by rfl) T.sorted (by decide +kernel) (pa_cons (pe_callTy (cr_setL rfl) (by rfl) T.set (by decide +kernel) (pa_cons (pe_fld (pv 0) rfl) pa_nil)) pa_nil))) (pg_name (i := 3) sc_rooms_on_loops.nd rfl (.inl rfl))
        (pss_one (ps_if (pt_cmpR op_eq (pe_cmpR op_eqM (pe_op op_modM (pv 3) pe_int) pe_int (nomark _)) (pv 1) (nomark _))
          (pss_one (ps_for PassesOwn.never rfl (pi_list (C8.pe_c PR hr (by decide) rfl (pa_cons (pv 0) (pa_cons (C8.pe_c ER hr (by decide) rfl (pa_cons (pv 0) pa_nil)) (pa_cons (pv 3) pa_nil))))) (pg_name (i := 4) sc_rooms_on_loops.nd rfl (.inl rfl))
            (pss_one (ps_set (i := 2) sc_rooms_on_loops.nd rfl (.inl rfl) (pe_op op_orN (pv 2) (pv 4))))))
          pss_nil)))
      (pss_one (ps_ret (pv 2)))), ?_⟩
    refine ⟨_, rfl, m, C, dx, _, _, rfl, m1, T.cl, T.nR, mf_ranks _ _ _ _, lr, R.map fun x : Nat => (x : Int), rfl, SqL.of (by rw [m3, map_nV]), by rw [List.length_map]; omega, fun p c hc np => ?_⟩
    rw [List.length_map] at hc
    refine ⟨p, _, c, rfl, upd_same, by omega, fun ns p2 hpw hmem hlen np2 => ⟨p2, rfl, ⟨_, SqL.of upd_same⟩, ?_⟩⟩
    have hin : ∀ z, z ∈ ns ↔ ∃ t ∈ R, z = (t : Int) := fun z => by
      rw [hmem, decide_eq_true_iff, List.mem_map]
      exact ⟨fun ⟨t, h1, h2⟩ => ⟨t, h1, h2.symm⟩, fun ⟨t, h1, h2⟩ => ⟨t, h1, h2.symm⟩⟩
    have s1 := (same_upd (o := SetO w p (fun j => decide (j ∈ R.map fun x : Nat => (x : Int))) c) np).trans (same_upd (o := .lst (ns.map V.int)) np2)
    refine for_list (K := K) (a := p2) (xs := ns.map V.int) (fun i σ H' => ∃ (b : Nat) (v3 v4 : Option V), σ = [some (.ref m), some (.bl wanted), some (nV b), v3, v4] ∧ Same H H' ∧ H' p2 = some (.lst (ns.map V.int)) ∧
        ∀ g, b.testBit g = true ↔ ∃ t : Nat, (t : Int) ∈ ns.take i ∧ decide (t % 2 = 0) = wanted ∧ ∃ A ps p, UpTo R S.length t A ∧ Parts S A ps ∧ p ∈ ps ∧ Top R p t ∧ p.testBit g = true)
      ⟨0, none, none, rfl, s1, upd_same, fun g => by simp⟩ (fun i σ H' _ ⟨_, _, _, _, _, e, _⟩ => SqL.of e) ?_ ?_
    · rintro i v σ H' hv ⟨b, v3, v4, rfl, s', ep2, hb⟩
      rw [List.getElem?_map] at hv
      cases hz : ns[i]? with
      | none =>
        rw [hz] at hv
        cases hv
      | some z =>
        rw [hz] at hv
        obtain ⟨t, htR, rfl⟩ := (hin z).mp (List.mem_of_getElem? hz)
        have ev : v = nV t := (Option.some.inj hv).symm
        subst ev
        have stepz : ∀ y : Nat, (y : Int) ∈ ns.take (i + 1) ↔ (y : Int) ∈ ns.take i ∨ y = t := fun y => by
          have e : ((y : Int) = (t : Int)) ↔ y = t := by omega
          rw [List.take_add_one, hz, List.mem_append]
          simp [e]
        refine ⟨_, rfl, t, 2, rfl, rfl, by decide, t % 2, 0, rfl, rfl, _, rfl, rfl, _, rfl, ?_⟩
        rw [bl_eq]
        refine ite2 (fun hw => ?_) (fun hw => ?_)
        · have hw : decide (t % 2 = 0) = wanted := of_decide_eq_true hw
          refine ⟨_, rfl, _, rfl, m, S, R, k, rfl, M.same s', _, rfl, m, S, R, k, t, rfl, M.same s', fun H2 pl qs A ps s2 epl hA hps hqs => ⟨pl, rfl, ⟨_, SqL.of epl⟩, ?_⟩⟩
          refine for_list (K := K) (a := pl) (xs := qs.map nV) (fun j σ H'' => ∃ (b' : Nat) (v4 : Option V), σ = [some (.ref m), some (.bl wanted), some (nV b'), some (nV t), v4] ∧ H'' = H2 ∧ ∀ g, b'.testBit g = true ↔ b.testBit g = true ∨ ∃ x ∈ qs.take j, x.testBit g = true)
            ⟨b, v4, rfl, rfl, fun g => by simp⟩ (fun j σ H'' _ ⟨_, _, _, e, _⟩ => e ▸ SqL.of epl) ?_ ?_
          · rintro j v σ H'' hv ⟨b', v4', rfl, rfl, hb'⟩
            obtain ⟨x, hxj, rfl⟩ := nV_get hv
            refine ⟨_, rfl, _, rfl, b', x, rfl, rfl, b' ||| x, _, rfl, rfl, fun g => ?_⟩
            rw [or_bit, hb', ex_step hxj]
            constructor
            · rintro ((h | h) | h)
              · exact .inl h
              · exact .inr (.inl h)
              · exact .inr (.inr h)
            · rintro (h | h | h)
              · exact .inl (.inl h)
              · exact .inl (.inr h)
              · exact .inr h
          · rintro σ H'' ⟨b', v4', rfl, rfl, hb'⟩
            rw [List.length_map, List.take_length] at hb'
            refine ⟨b', _, _, rfl, s'.trans s2, s2 _ _ ep2, fun g => ?_⟩
            rw [hb', hb]
            constructor
            · rintro (⟨y, h1, h2⟩ | ⟨x, h1, h2⟩)
              · exact ⟨y, (stepz y).mpr (.inl h1), h2⟩
              · obtain ⟨h3, h4⟩ := (hqs x).mp h1
                exact ⟨t, (stepz t).mpr (.inr rfl), hw, A, ps, x, hA, hps, h3, h4, h2⟩
            · rintro ⟨y, h1, h2, A2, ps2, x, h3, h4, h5, h6, h7⟩
              rcases (stepz y).mp h1 with h | rfl
              · exact .inl ⟨y, h, h2, A2, ps2, x, h3, h4, h5, h6, h7⟩
              · have eA : A2 = A := bits_eq fun r => by rw [h3 r, hA r]
                subst eA
                obtain ⟨r, c1, c2, c3⟩ := (h4.mem x).mp h5
                exact .inr ⟨x, (hqs x).mpr ⟨(hps.mem x).mpr ⟨r, c1, c2, c3⟩, h6⟩, h7⟩
        · have hw : ¬ decide (t % 2 = 0) = wanted := fun z => hw (decide_eq_true z)
          refine ⟨b, _, _, rfl, s', ep2, fun g => ?_⟩
          rw [hb]
          constructor
          · rintro ⟨y, h1, h2⟩
            exact ⟨y, (stepz y).mpr (.inl h1), h2⟩
          · rintro ⟨y, h1, h2, h3⟩
            rcases (stepz y).mp h1 with h | rfl
            · exact ⟨y, h, h2, h3⟩
            · exact absurd h2 hw
    · rintro σ H' ⟨b, v3, v4, rfl, s', ep2, hb⟩
      rw [List.length_map, List.take_length] at hb
      refine ⟨_, rfl, q H' b s' fun g => ?_⟩
      rw [hb, on_loops W hRl]
      constructor
      · rintro ⟨t, h1, h2⟩
        obtain ⟨t', h3, h4⟩ := (hin _).mp h1
        have e : t = t' := by omega
        subst e
        exact ⟨t, h3, h2⟩
      · rintro ⟨t, h1, h2⟩
        exact ⟨t, (hin _).mpr ⟨t, h1, rfl⟩, h2⟩
/-- the rooms from which no loop of the sort can be come to -/
def NoneOf (S : Stp) (R : List Nat) (wanted : Bool) (b : Nat) : Prop := ∀ g, b.testBit g = true ↔ g < S.length ∧ ¬ ∃ L x, Sort' S R wanted L ∧ L.testBit x = true ∧ Rch S (full S) g x
def spNone (C : Addr) (wanted : Bool) : Sp := fun vs H Q _ => ∃ (m : Addr) (S : Stp) (R : List Nat) (k : Nat), vs = [.ref m] ∧ Mach C H m S R k ∧ ∀ (H' : Hp) (b : Nat), Same H H' → NoneOf S R wanted b → Q (nV b) H'
theorem none_xor {S : Stp} {R : List Nat} {wanted : Bool} {a c : Nat} (ha : ∀ g, a.testBit g = true ↔ ∃ L, Sort' S R wanted L ∧ L.testBit g = true) (hc : ∀ g, c.testBit g = true ↔ g < S.length ∧ ∃ x, a.testBit x = true ∧ Rch S (full S) g x) : NoneOf S R wanted (full S ^^^ c) := fun g => by
  have e1 : (full S).testBit g = decide (g < S.length) := Nat.testBit_two_pow_sub_one _ _
  rw [Nat.testBit_xor, e1]
  have hx : (∃ x, a.testBit x = true ∧ Rch S (full S) g x) ↔ ∃ L x, Sort' S R wanted L ∧ L.testBit x = true ∧ Rch S (full S) g x := by
    constructor
    · rintro ⟨x, h1, h2⟩
      obtain ⟨L, h3, h4⟩ := (ha x).mp h1
      exact ⟨L, x, h3, h4, h2⟩
    · rintro ⟨L, x, h1, h2, h3⟩
      exact ⟨x, (ha x).mpr ⟨L, h1, h2⟩, h3⟩
  rw [← hx]
  have h := hc g
  by_cases hg : g < S.length
  · rw [decide_eq_true hg]
    cases q : c.testBit g with
    | true =>
      rw [q] at h
      exact ⟨fun z => (nomatch z), fun z => absurd (h.mp rfl).2 z.2⟩
    | false =>
      rw [q] at h
      exact ⟨fun _ => ⟨hg, fun z => nomatch h.mpr ⟨hg, z⟩⟩, fun _ => rfl⟩
  · rw [decide_eq_false hg]
    cases q : c.testBit g with
    | true =>
      rw [q] at h
      exact absurd (h.mp rfl).1 hg
    | false => exact ⟨fun z => (nomatch z), fun z => absurd z.1 hg⟩
theorem sc_dead_rooms : FnScope ["machine"] ["machine"] (defScope s_dead_rooms) := ⟨rfl, rfl, rfl, by decide +kernel, rfl, by decide +kernel, by decide +kernel⟩
theorem c_dead_rooms (F : DefA K mg "dead_rooms" s_dead_rooms ["machine"]) (OL : Cal P w K mg base 6 "rooms_on_loops" (spOnLoops C)) (RE : Cal P w K mg base 4 "reaching" (spReaching C)) (ER : Cal P w K mg base 1 "every_room" (spEveryRoom C)) : Cal P w K mg base 7 "dead_rooms" (spNone C true) := by
  refine cal F sc_dead_rooms (fun vs H Q E h => ?_) (fun f cdv A' outer s H vs Q E hr h => ?_)
  · obtain ⟨m, S, R, k, rfl, _⟩ := h
    rfl
  · obtain ⟨m, S, R, k, rfl, M, q⟩ := h
    refine ⟨_, pss_one (ps_ret (pe_op op_xorN (C8.pe_c ER hr (by decide) rfl (pa_cons (pv 0) pa_nil)) (C8.pe_c RE hr (by decide) rfl (pa_cons (pv 0) (pa_cons (C8.pe_c OL hr (by decide) rfl (pa_cons (pv 0) (pa_cons pe_bl pa_nil))) pa_nil))))), ?_⟩
    refine ⟨_, rfl, m, S, R, k, rfl, M, _, rfl, _, rfl, m, S, R, k, true, rfl, M, fun H1 a s1 ha => ?_⟩
    refine ⟨m, S, R, k, a, rfl, M.same s1, lt_of_bits fun r h => ?_, fun H2 c s2 hc => ⟨full S, c, rfl, rfl, q H2 _ (s1.trans s2) (none_xor ha hc)⟩⟩
    obtain ⟨L, h1, h2⟩ := (ha r).mp h
    exact h1.1.lt M.1 h2
theorem sc_sure_rooms : FnScope ["machine"] ["machine"] (defScope s_sure_rooms) := ⟨rfl, rfl, rfl, by decide +kernel, rfl, by decide +kernel, by decide +kernel⟩
theorem c_sure_rooms (F : DefA K mg "sure_rooms" s_sure_rooms ["machine"]) (OL : Cal P w K mg base 6 "rooms_on_loops" (spOnLoops C)) (RE : Cal P w K mg base 4 "reaching" (spReaching C)) (ER : Cal P w K mg base 1 "every_room" (spEveryRoom C)) : Cal P w K mg base 7 "sure_rooms" (spNone C false) := by
  refine cal F sc_sure_rooms (fun vs H Q E h => ?_) (fun f cdv A' outer s H vs Q E hr h => ?_)
  · obtain ⟨m, S, R, k, rfl, _⟩ := h
    rfl
  · obtain ⟨m, S, R, k, rfl, M, q⟩ := h
    refine ⟨_, pss_one (ps_ret (pe_op op_xorN (C8.pe_c ER hr (by decide) rfl (pa_cons (pv 0) pa_nil)) (C8.pe_c RE hr (by decide) rfl (pa_cons (pv 0) (pa_cons (C8.pe_c OL hr (by decide) rfl (pa_cons (pv 0) (pa_cons pe_bl pa_nil))) pa_nil))))), ?_⟩
    refine ⟨_, rfl, m, S, R, k, rfl, M, _, rfl, _, rfl, m, S, R, k, false, rfl, M, fun H1 a s1 ha => ?_⟩
    refine ⟨m, S, R, k, a, rfl, M.same s1, lt_of_bits fun r h => ?_, fun H2 c s2 hc => ⟨full S, c, rfl, rfl, q H2 _ (s1.trans s2) (none_xor ha hc)⟩⟩
    obtain ⟨L, h1, h2⟩ := (ha r).mp h
    exact h1.1.lt M.1 h2
end
end Lr

set_option Elab.async false
set_option linter.all false
set_option maxRecDepth 100000
set_option maxHeartbeats 4000000
namespace Lr
open PySem PySem.Spec PyProof.Rows L2
/-! ### letters, words as texts -/
/-- the word of these letters, each by its number -/
def wd (is : List Nat) : Str := SX.S (is.map fun i => 97 + i)
theorem wd_nil : wd [] = ("" : Str) := by rfl
theorem wd_one (i : Nat) : wd [i] = ⟨#[97 + i]⟩ := rfl
theorem wd_cat (a b : List Nat) : wd a ++ wd b = wd (a ++ b) := by
  unfold wd
  rw [SX.S_cat, List.map_append]
theorem wd_len (a : List Nat) : (wd a).length = a.length := by
  unfold wd
  rw [SX.S_len, List.length_map]
theorem wd_size (a : List Nat) : (wd a).cps.size = a.length := by
  show ((a.map fun i => 97 + i).toArray).size = a.length
  rw [List.size_toArray, List.length_map]
theorem wd_at {a : List Nat} {i c : Nat} (h : (wd a).cps[i]? = some c) : ∃ j, a[i]? = some j ∧ c = 97 + j := by
  have h : ((a.map fun i => 97 + i).toArray)[i]? = some c := h
  rw [List.getElem?_toArray, List.getElem?_map] at h
  cases e : a[i]? with
  | none =>
    rw [e] at h
    cases h
  | some j =>
    rw [e] at h
    exact ⟨j, rfl, (Option.some.inj h).symm⟩
theorem wd_ne {a : List Nat} (h : a ≠ []) : ¬ V.str (wd a) = V.str "" := fun e => by
  have e1 : wd a = wd [] := V.str.inj e
  have e2 := congrArg Str.length e1
  rw [wd_len, wd_len] at e2
  exact h (List.length_eq_zero_iff.mp e2)
theorem abc_at {i c : Nat} (h : ("abc" : Str).cps[i]? = some c) : i < 3 ∧ c = 97 + i := by
  have e : ("abc" : Str).cps = #[97, 98, 99] := by rfl
  rw [e] at h
  match i, h with
  | 0, h => exact ⟨by decide, (Option.some.inj h).symm⟩
  | 1, h => exact ⟨by decide, (Option.some.inj h).symm⟩
  | 2, h => exact ⟨by decide, (Option.some.inj h).symm⟩
  | i + 3, h => simp at h
theorem at_abc {i : Nat} (h : i < 3) : ("abc" : Str).cps[i]? = some (97 + i) := by
  have e : ("abc" : Str).cps = #[97, 98, 99] := by rfl
  rw [e]
  match i, h with
  | 0, _ => rfl
  | 1, _ => rfl
  | 2, _ => rfl
theorem abc_size : ("abc" : Str).cps.size = 3 := by rfl
theorem cut_abc {k : Nat} (h1 : 1 ≤ k) (h3 : k ≤ 3) (i : Nat) (hi : i < k) : 97 + i ∈ (cutS ("abc" : Str) none (some (k : Int))).cps.toList := by
  match k, h1, h3 with
  | 1, _, _ =>
    have e : (cutS ("abc" : Str) none (some ((1 : Nat) : Int))).cps.toList = [97] := by decide +kernel
    rw [e]
    have : i = 0 := by omega
    subst this
    decide
  | 2, _, _ =>
    have e : (cutS ("abc" : Str) none (some ((2 : Nat) : Int))).cps.toList = [97, 98] := by decide +kernel
    rw [e]
    have : i = 0 ∨ i = 1 := by omega
    rcases this with rfl | rfl <;> decide
  | 3, _, _ =>
    have e : (cutS ("abc" : Str) none (some ((3 : Nat) : Int))).cps.toList = [97, 98, 99] := by decide +kernel
    rw [e]
    have : i = 0 ∨ i = 1 ∨ i = 2 := by omega
    rcases this with rfl | rfl | rfl <;> decide
/-! ### loops over a text's signs, over letters and a list -/
theorem for_str {x : Str} {g : TG} {tb : TS} {D : Ends} {σ : L2.St} {H : Hp} (Pv : Nat → L2.St → Hp → Prop) (h0 : Pv 0 σ H)
    (hs : ∀ i c σ H, x.cps[i]? = some c → Pv i σ H → g (.str ⟨#[c]⟩) σ H fun σ2 H2 => tb { D with nx := Pv (i + 1), ct := Pv (i + 1), bk := D.nx } σ2 H2) (hd : ∀ σ H, Pv x.cps.size σ H → D.nx σ H) :
    ∃ W : Nat → Nat → L2.St → Hp → Prop, (∃ m, W 0 m σ H) ∧ ∀ i m σ H, W i m σ H →
      ((Its x).stop i H ∧ D.nx σ H) ∨ ((Its x).go i H ∧ ∃ N : L2.St → Hp → Prop, (∀ σ' H', N σ' H' → ∃ m', m' < m ∧ W (i + 1) m' σ' H') ∧ ∀ v H', (Its x).yld i H v H' → g v σ H' fun σ2 H2 => tb { D with nx := N, ct := N, bk := D.nx } σ2 H2) := by
  refine ⟨fun i m σ H => m = x.cps.size - i ∧ i ≤ x.cps.size ∧ Pv i σ H, ⟨_, rfl, Nat.zero_le _, h0⟩, ?_⟩
  rintro i m σ H ⟨rfl, hi, p⟩
  by_cases hl : i < x.cps.size
  · refine .inr ⟨hl, Pv (i + 1), fun σ' H' p' => ⟨x.cps.size - (i + 1), by omega, rfl, hl, p'⟩, fun v H' hy => ?_⟩
    obtain ⟨rfl, c, hc, rfl⟩ := hy
    exact hs i c σ H' hc p
  · have e : i = x.cps.size := by omega
    subst e
    exact .inl ⟨Nat.le_refl _, hd σ H p⟩
theorem for_abc {K : PySem.W.Frag} {b : Addr} {row : List Nat} (hrow : row.length ≤ 3) {g : TG} {tb : TS} {D : Ends} {σ : L2.St} {H : Hp} (Pv : Nat → L2.St → Hp → Prop) (h0 : Pv 0 σ H) (hq : ∀ i σ H, Pv i σ H → SqL K H b (row.map nV))
    (hs : ∀ (i y : Nat) (T : Addr) (σ : L2.St) (H : Hp), row[i]? = some y → Pv i σ H → H T = none → g (.ref T) σ (upd H T (.tup [.str (wd [i]), nV y])) fun σ2 H2 => tb { D with nx := Pv (i + 1), ct := Pv (i + 1), bk := D.nx } σ2 H2)
    (hd : ∀ σ H, Pv row.length σ H → D.nx σ H) :
    ∃ W : Nat → Nat → L2.St → Hp → Prop, (∃ m, W 0 m σ H) ∧ ∀ i m σ H, W i m σ H →
      ((ItzS K "abc" b).stop i H ∧ D.nx σ H) ∨ ((ItzS K "abc" b).go i H ∧ ∃ N : L2.St → Hp → Prop, (∀ σ' H', N σ' H' → ∃ m', m' < m ∧ W (i + 1) m' σ' H') ∧ ∀ v H', (ItzS K "abc" b).yld i H v H' → g v σ H' fun σ2 H2 => tb { D with nx := N, ct := N, bk := D.nx } σ2 H2) := by
  refine ⟨fun i m σ H => m = row.length - i ∧ i ≤ row.length ∧ Pv i σ H, ⟨_, rfl, Nat.zero_le _, h0⟩, ?_⟩
  rintro i m σ H ⟨rfl, hi, p⟩
  have q := hq i σ H p
  by_cases hl : i < row.length
  · have hy : row[i]? = some row[i] := List.getElem?_eq_getElem hl
    refine .inr ⟨⟨97 + i, _, nV row[i], at_abc (by omega), q, get_nV hy⟩, Pv (i + 1), fun σ' H' p' => ⟨row.length - (i + 1), by omega, rfl, hl, p'⟩, fun v H' hv => ?_⟩
    obtain ⟨T, c, y, rfl, hT, rfl, hc, hf⟩ := hv
    have e := (abc_at hc).2
    subst e
    obtain ⟨y', hy', rfl⟩ := nV_get (hf _ q)
    exact hs i y' T σ H hy' p hT
  · have e : i = row.length := by omega
    subst e
    exact .inl ⟨⟨_, q, by rw [abc_size, List.length_map]; omega⟩, hd σ H p⟩
section
variable {P : Program} {w : World} {K : PySem.W.Frag} {mg : Str → Option Value} {base : Heap} {C : Addr}
/-! ### is_word, is_endless -/
theorem sc_is_word : FnScope ["thing", "many", "sign"] ["thing", "many"] (defScope s_is_word) := ⟨rfl, rfl, rfl, by decide +kernel, rfl, by decide +kernel, by decide +kernel⟩
def spIsWord : Sp := fun vs H Q _ => ∃ (is : List Nat) (k : Nat), vs = [.str (wd is), nV k] ∧ 1 ≤ k ∧ k ≤ 3 ∧ (∀ i ∈ is, i < k) ∧ Q (.bl true) H
theorem c_is_word (T : Txt K mg C) (F : DefA K mg "is_word" s_is_word ["thing", "many"]) : Cal P w K mg base 1 "is_word" spIsWord := by
  refine cal F sc_is_word (fun vs H Q E h => ?_) (fun f cdv A' outer s H vs Q E hr h => ?_)
  · obtain ⟨is, k, rfl, _⟩ := h
    rfl
  · obtain ⟨is, k, rfl, k1, k3, his, q⟩ := h
    obtain ⟨tl, hlt⟩ := T.lets
    refine ⟨_, pss_cons (ps_if (pt_not (pt_val (pe_callB call_isi (by rfl) T.isi (by decide +kernel) (pa_cons (pv 0) (pa_cons (pe_bltn (by rfl) T.str (by decide +kernel) (v := .ty "str") rfl) pa_nil)))))
        (pss_one (ps_ret pe_bl)) pss_nil)
      (pss_cons (ps_for PassesOwn.never rfl (pi_str (pv 0)) (pg_name (i := 2) sc_is_word.nd rfl (.inl rfl))
        (pss_one (ps_if (pt_cmpR op_notIn_sign (pv 2) (pe_slice sl_str (C8.pe_gc (v := .str "abc") rfl ⟨_, hlt, ⟨tl, rfl⟩⟩) po_none (po_some (pv 1))) rfl) (pss_one (ps_ret pe_bl)) pss_nil)))
      (pss_one (ps_ret pe_bl))), ?_⟩
    refine ⟨_, rfl, _, _, _, _, true, rfl, .ty "str", .base (.str _), kit_ty (by decide +kernel), _, rfl, ?_⟩
    refine iteF ⟨_, rfl, wd is, rfl, for_str (fun i σ H' => H' = H ∧ ∃ v : Option V, σ = [some (.str (wd is)), some (nV k), v]) ⟨rfl, none, rfl⟩ ?_ ?_⟩
    · rintro i c σ H' hc ⟨rfl, v, rfl⟩
      obtain ⟨j, hj, rfl⟩ := wd_at hc
      have hjk : j < k := his j (List.mem_of_getElem? hj)
      refine ⟨_, rfl, _, rfl, (k : Int), rfl, "abc", rfl, by decide +kernel, 97 + j, _, rfl, rfl, _, rfl, ?_⟩
      rw [decide_eq_true (cut_abc k1 k3 j hjk)]
      exact iteF ⟨rfl, _, rfl⟩
    · rintro σ H' ⟨rfl, v, rfl⟩
      exact q
theorem sc_is_endless : FnScope ["thing", "many"] ["thing", "many"] (defScope s_is_endless) := ⟨rfl, rfl, rfl, by decide +kernel, rfl, by decide +kernel, by decide +kernel⟩
def spIsEndless : Sp := fun vs H Q _ => ∃ (t : Addr) (a b : List Nat) (k : Nat), vs = [.ref t, nV k] ∧ H t = some (.tup [.str (wd a), .str (wd b)]) ∧ 1 ≤ k ∧ k ≤ 3 ∧ (∀ i ∈ a, i < k) ∧ (∀ i ∈ b, i < k) ∧ b ≠ [] ∧ Q (.bl true) H
theorem c_is_endless (T : Txt K mg C) (F : DefA K mg "is_endless" s_is_endless ["thing", "many"]) (IW : Cal P w K mg base 1 "is_word" spIsWord) : Cal P w K mg base 2 "is_endless" spIsEndless := by
  refine cal F sc_is_endless (fun vs H Q E h => ?_) (fun f cdv A' outer s H vs Q E hr h => ?_)
  · obtain ⟨t, a, b, k, rfl, _⟩ := h
    rfl
  · obtain ⟨t, a, b, k, rfl, et, k1, k3, ha, hb, hb0, q⟩ := h
    refine ⟨_, pss_cons (ps_if (PW.pt (pw_or (pt_not (pt_val (pe_callB call_isi (by rfl) T.isi (by decide +kernel) (pa_cons (pv 0) (pa_cons (pe_bltn (by rfl) T.tuple (by decide +kernel) (v := .ty "tuple") rfl) pa_nil)))))
        (pw_or1 (pt_cmpR op_neM (pe_callB call_len_seq (by rfl) T.len PySem.boot_len (pa_cons (pv 0) pa_nil)) pe_int (nomark _)))))
        (pss_one (ps_ret pe_bl)) pss_nil)
      (pss_one (ps_ret (pe_and (C8.pe_c IW hr (by decide) rfl (pa_cons (pe_ix ix_tup (pv 0) pe_int (fun _ _ => rfl)) (pa_cons (pv 1) pa_nil)))
        (pe_and (C8.pe_c IW hr (by decide) rfl (pa_cons (pe_ix ix_tup (pv 0) pe_int (fun _ _ => rfl)) (pa_cons (pv 1) pa_nil)))
        (pe_one (pe_cmpR op_ne (pe_ix ix_tup (pv 0) pe_int (fun _ _ => rfl)) pe_str (nomark _))))))), ?_⟩
    have sq : SqT K H t [.str (wd a), .str (wd b)] := .inl (.inl et)
    refine ⟨_, rfl, _, _, _, _, true, rfl, .ty "tuple", .base (.tup et), kit_ty (by decide +kernel), _, rfl, iteF ?_⟩
    refine ⟨_, rfl, t, _, rfl, .inr sq, 2, 2, rfl, rfl, _, rfl, iteF ?_⟩
    refine ⟨_, rfl, t, _, 0, _, rfl, rfl, sq, rfl, _, rfl, a, k, rfl, k1, k3, ha, true, rfl, iteT ?_⟩
    refine ⟨_, rfl, t, _, 1, _, rfl, rfl, sq, rfl, _, rfl, b, k, rfl, k1, k3, hb, true, rfl, iteT ?_⟩
    refine ⟨_, rfl, t, _, 1, _, rfl, rfl, sq, rfl, rfl, ?_⟩
    rw [decide_eq_false (wd_ne hb0)]
    exact q
end
end Lr

set_option Elab.async false
set_option linter.all false
set_option maxRecDepth 100000
set_option maxHeartbeats 4000000
namespace Lr
open PySem PySem.Spec PyProof.Rows L2
/-! ### the dict of words by rooms -/
def enc (e : Nat × List Nat) : Key × V := (Sum.inl (e.1 : Int), .str (wd e.2))
theorem enc_ne {a b : Nat} (h : a ≠ b) : ¬ (Sum.inl (a : Int) : Key) = Sum.inl (b : Int) := fun e => h (by
  have := Sum.inl.inj e
  omega)
theorem val_none {g : Nat} : ∀ {es : List (Nat × List Nat)}, g ∉ es.map (·.1) → valV (es.map enc) (Sum.inl (g : Int)) = none
  | [], _ => rfl
  | e :: es, h => by
    rw [List.map_cons] at h
    rw [List.map_cons, valV_neg (enc_ne fun z : e.1 = g => h (by rw [z]; exact List.mem_cons_self ..))]
    exact val_none fun z => h (List.mem_cons_of_mem _ z)
theorem val_at : ∀ {es : List (Nat × List Nat)} {j : Nat} {e : Nat × List Nat}, (es.map (·.1)).Nodup → es[j]? = some e → valV (es.map enc) (Sum.inl (e.1 : Int)) = some (.str (wd e.2))
  | [], _, _, _, h => by simp at h
  | a :: es, 0, e, _, h => by
    have : a = e := Option.some.inj h
    subst this
    exact valV_pos rfl
  | a :: es, j + 1, e, nd, h => by
    rw [List.map_cons] at nd
    obtain ⟨h1, h2⟩ := List.nodup_cons.mp nd
    have h : es[j]? = some e := h
    rw [List.map_cons, valV_neg (enc_ne fun z : a.1 = e.1 => h1 (by rw [z]; exact List.mem_map_of_mem (List.mem_of_getElem? h)))]
    exact val_at h2 h
/-- the words that are known, each with its room -/
structure WayAt (S : Stp) (k A room : Nat) (es : List (Nat × List Nat)) : Prop where
  nd : (es.map (·.1)).Nodup
  hd : room ∈ es.map (·.1)
  ok : ∀ e ∈ es, A.testBit e.1 = true ∧ (∀ i ∈ e.2, i < k) ∧ behind S room e.2 = e.1 ∧ ∀ v ∈ ahead S room e.2, A.testBit v = true
  len : ∀ (j : Nat) (e : Nat × List Nat), es[j]? = some e → e.2.length ≤ j
theorem WayAt.size {S : Stp} {k A room n : Nat} {es : List (Nat × List Nat)} (h : WayAt S k A room es) (hA : A < 2 ^ n) : es.length ≤ n := by
  have := nodup_len (n := n) h.nd fun x hx => by
    obtain ⟨e, he, rfl⟩ := List.mem_map.mp hx
    exact bit_lt hA (h.ok e he).1
  rwa [List.length_map] at this
theorem WayAt.push {S : Stp} {k A room j x i g : Nat} {wx : List Nat} {es : List (Nat × List Nat)} (h : WayAt S k A room es) (hj : es[j]? = some (x, wx)) (hi : i < k) (hg : stp S x i = g) (hA : A.testBit g = true) (hn : g ∉ es.map (·.1)) :
    WayAt S k A room (es ++ [(g, wx ++ [i])]) := by
  obtain ⟨a1, a2, a3, a4⟩ := h.ok _ (List.mem_of_getElem? hj)
  refine ⟨?_, ?_, fun e he => ?_, fun j' e he => ?_⟩
  · rw [List.map_append]
    exact nodup_snoc h.nd hn
  · rw [List.map_append]
    exact List.mem_append_left _ h.hd
  · rcases List.mem_append.mp he with he | he
    · exact h.ok e he
    · rw [List.mem_singleton.mp he]
      refine ⟨hA, fun y hy => ?_, ?_, fun v hv => ?_⟩
      · rcases List.mem_append.mp hy with hy | hy
        · exact a2 y hy
        · rw [List.mem_singleton.mp hy]
          exact hi
      · show behind S room (wx ++ [i]) = g
        rw [behind_append, a3]
        exact hg
      · rw [ahead_append, a3] at hv
        rcases List.mem_append.mp hv with hv | hv
        · exact a4 v hv
        · have e : v = x := by simpa [ahead] using hv
          rw [e]
          exact a1
  · by_cases hl : j' < es.length
    · rw [List.getElem?_append_left hl] at he
      exact h.len j' e he
    · have hl2 := lt_len he
      rw [List.length_append, List.length_singleton] at hl2
      have e1 : j' = es.length := by omega
      subst e1
      rw [List.getElem?_append_right (Nat.le_refl _), Nat.sub_self] at he
      have e2 : (g, wx ++ [i]) = e := Option.some.inj he
      subst e2
      have h1 := h.len j _ hj
      have h2 := lt_len hj
      show (wx ++ [i]).length ≤ es.length
      rw [List.length_append, List.length_singleton]
      have h1 : wx.length ≤ j := h1
      omega
section
variable {P : Program} {w : World} {K : PySem.W.Frag} {mg : Str → Option Value} {base : Heap} {C : Addr}
/-! ### way_in -/
abbrev n_way_in : List Str := ["machine", "allowed", "room", "goal", "words", "line", "at", "here", "letter", "beside"]
theorem sc_way_in : FnScope n_way_in ["machine", "allowed", "room", "goal"] (defScope s_way_in) := ⟨rfl, rfl, rfl, by decide +kernel, rfl, by decide +kernel, by decide +kernel⟩
def spWayIn (C : Addr) : Sp := fun vs H Q _ => ∃ (m : Addr) (S : Stp) (R : List Nat) (k A r g : Nat), vs = [.ref m, nV A, nV r, nV g] ∧ Mach C H m S R k ∧ A < 2 ^ S.length ∧ A.testBit r = true ∧ A.testBit g = true ∧ Rch S A r g ∧
  ∀ (H' : Hp) (is : List Nat), Same H H' → (∀ i ∈ is, i < k) → behind S r is = g → (∀ v ∈ ahead S r is, A.testBit v = true) → is.length ≤ 8 → Q (.str (wd is)) H'
theorem c_way_in (T : Txt K mg C) (F : DefA K mg "way_in" s_way_in ["machine", "allowed", "room", "goal"]) (HR : Cal P w K mg base 1 "has_room" spHasRoom) : Cal P w K mg base 2 "way_in" (spWayIn C) := by
  refine cal F sc_way_in (fun vs H Q E h => ?_) (fun f cdv A' outer s H vs Q E hr h => ?_)
  · obtain ⟨m, S, R, k, A, r, g, rfl, _⟩ := h
    rfl
  · obtain ⟨m, S, R, k, A, r, g, rfl, M, hA, hAr, hAg, hrch, q⟩ := h
    obtain ⟨W, hRl, dx, ls, lr, m1, m2, m3⟩ := id M
    have hn8 := W.n8
    have hk3 := W.k3
    obtain ⟨tl, hlt⟩ := T.lets
    have hu := hu_of hr
    refine ⟨_, pss_cons (ps_if (PW.pt (pw_or (pt_not (pt_val (C8.pe_c HR hr (by decide) rfl (pa_cons (pv 1) (pa_cons (pv 2) pa_nil))))) (pw_or1 (pt_not (pt_val (C8.pe_c HR hr (by decide) rfl (pa_cons (pv 1) (pa_cons (pv 3) pa_nil))))))))
        (pss_one (ps_ret pe_non)) pss_nil)
      (pss_cons (ps_set (i := 4) sc_way_in.nd rfl (.inl rfl) (pe_disp (pps_cons (pv 2) pe_str pps_nil) (by rfl) (by rfl) (fun z => by cases z) (by decide)))
      (pss_cons (ps_set (i := 5) sc_way_in.nd rfl (.inl rfl) (pe_lst (pa_cons (pv 2) pa_nil)))
      (pss_cons (ps_set (i := 6) sc_way_in.nd rfl (.inl rfl) pe_int)
      (pss_cons (ps_while PassesOwn.never (pt_cmpR op_ltM (pv 6) (pe_callB call_len_seq (by rfl) T.len PySem.boot_len (pa_cons (pv 5) pa_nil)) (nomark _))
        (pss_cons (ps_set (i := 7) sc_way_in.nd rfl (.inl rfl) (pe_ix ix_list (pv 5) (pv 6) (fun _ _ => rfl)))
        (pss_cons (ps_set (i := 6) sc_way_in.nd rfl (.inl rfl) (pe_op op_addM (pv 6) pe_int))
        (pss_one (ps_for PassesOwn.never rfl (pi_zipS rfl T.zip (pa_cons (C8.pe_gc (v := .str "abc") rfl ⟨_, hlt, ⟨tl, rfl⟩⟩) (pa_cons (pe_ix ix_list (pe_fld (pv 0) rfl) (pv 7) (fun _ _ => rfl)) pa_nil)))
            (pg_tup rfl (pgs_cons (pg_name (i := 8) sc_way_in.nd rfl (.inl rfl)) (pgs_cons (pg_name (i := 9) sc_way_in.nd rfl (.inl rfl)) pgs_nil)))
          (pss_one (ps_if (PW.pt (pw_and (pt_val (C8.pe_c HR hr (by decide) rfl (pa_cons (pv 1) (pa_cons (pv 9) pa_nil)))) (pw_and1 (pt_cmp (pc_dnotin hu (pv 9) (pv 4))))))
            (pss_cons (ps_dput hu (pv 4) (pv 9) (pe_op op_add_str (pe_dget hu (pv 4) (pv 7) (fun _ _ => rfl)) (pv 8)) rfl)
            (pss_one (ps_expr (pe_bm PySem.F.plainAttrs_list PySem.F.slot_list_append PySem.F.type_list_append mt_append (pv 5) (pa_cons (pv 9) pa_nil)))))
            pss_nil)))))))
      (pss_one (ps_ret (pe_dget1 hu (pv 4) (pv 3) ⟨rfl, rfl, rfl, rfl⟩))))))), ?_⟩
    refine ⟨_, rfl, _, rfl, A, r, rfl, _, rfl, ?_⟩
    rw [hAr]
    refine iteF ⟨_, rfl, _, rfl, A, g, rfl, _, rfl, ?_⟩
    rw [hAg]
    refine iteF ?_
    -- words = {room: ''}; line = [room]; at = 0
    refine fun dd nd => ⟨_, rfl, upd_same, [enc (r, [])], rfl, by show 1 ≤ 15; decide, ?_⟩
    rw [upd_upd]
    refine ⟨_, rfl, by show 1 ≤ sizeLine; decide, fun ll nl => ?_⟩
    have s0 : Same H (upd H dd (.dK (mergeK [] [enc (r, [])]))) := same_upd nd
    have ndl : ll ≠ dd := fun e => by
      rw [e, upd_same] at nl
      cases nl
    have nlH : H ll = none := by
      rw [upd_ne ndl] at nl
      exact nl
    have st0 : WayAt S k A r [(r, [])] := ⟨by simp, by simp, fun e he => by
      rw [List.mem_singleton.mp he]
      exact ⟨hAr, fun i hi => (nomatch hi), rfl, fun v hv => (nomatch hv)⟩, fun j e he => by
      match j, he with
      | 0, he =>
        have : (r, []) = e := Option.some.inj he
        subst this
        exact Nat.le_refl _⟩
    refine ⟨fun μ σ H' => ∃ (es : List (Nat × List Nat)) (at_ : Nat) (v7 v8 v9 : Option V), σ = [some (.ref m), some (nV A), some (nV r), some (nV g), some (.ref dd), some (.ref ll), some (nV at_), v7, v8, v9] ∧ μ = S.length - at_ ∧ at_ ≤ es.length ∧ Same H H' ∧
        H' dd = some (.dK (es.map enc)) ∧ H' ll = some (.lst ((es.map (·.1)).map nV)) ∧ WayAt S k A r es ∧ ∀ (j : Nat) (e : Nat × List Nat), j < at_ → es[j]? = some e → ∀ y, Edge S e.1 y → A.testBit y = true → y ∈ es.map (·.1),
      ⟨_, [(r, [])], 0, none, none, none, rfl, rfl, Nat.zero_le _, same_put s0 nlH, ?_, upd_same, st0, fun j e h => absurd h (Nat.not_lt_zero _)⟩, ?_⟩
    · rw [upd_ne ndl.symm, upd_same]
      rfl
    rintro μ σ H' ⟨es, at_, v7, v8, v9, rfl, rfl, hat, sm, ed, el, st, clo⟩
    have hsz := st.size hA
    refine ⟨_, rfl, _, rfl, ll, _, rfl, .inl (SqL.of el), at_, _, rfl, rfl, _, rfl, ite2 (fun hlt' => ?_) (fun hlt' => ?_)⟩
    · have hlt' : at_ < es.length := by
        have := of_decide_eq_true hlt'
        rw [List.length_map, List.length_map] at this
        exact this
      obtain ⟨⟨x, wx⟩, hx⟩ : ∃ e, es[at_]? = some e := ⟨_, List.getElem?_eq_getElem hlt'⟩
      obtain ⟨o1, o2, o3, o4⟩ := st.ok _ (List.mem_of_getElem? hx)
      have hxn : x < S.length := bit_lt hA o1
      refine ⟨fun σ' H'' => ∃ (es' : List (Nat × List Nat)) (v7 v8 v9 : Option V), σ' = [some (.ref m), some (nV A), some (nV r), some (nV g), some (.ref dd), some (.ref ll), some (nV (at_ + 1)), v7, v8, v9] ∧ at_ + 1 ≤ es'.length ∧ Same H H'' ∧
          H'' dd = some (.dK (es'.map enc)) ∧ H'' ll = some (.lst ((es'.map (·.1)).map nV)) ∧ WayAt S k A r es' ∧ ∀ (j : Nat) (e : Nat × List Nat), j < at_ + 1 → es'[j]? = some e → ∀ y, Edge S e.1 y → A.testBit y = true → y ∈ es'.map (·.1),
        fun σ' H'' ⟨es', w7, w8, w9, e1, e2, e3, e4, e5, e6, e7⟩ => ⟨S.length - (at_ + 1), by omega, es', at_ + 1, w7, w8, w9, e1, rfl, e2, e3, e4, e5, e6, e7⟩, ?_⟩
      -- here = line[at]; at = at + 1
      have hxv : ((es.map (·.1)).map nV)[at_]? = some (nV x) := by
        rw [List.getElem?_map, List.getElem?_map, hx]
        rfl
      refine ⟨_, rfl, _, rfl, ll, _, (at_ : Int), nV x, rfl, rfl, SqL.of el, atI_nat hxv, _, rfl, at_, 1, rfl, rfl, ?_⟩
      obtain ⟨rsS, ra, row, r1, r2, r3, r4⟩ := m2.row (K := K) hxn
      have hrow : row.length = k := W.row row (List.mem_of_getElem? r3)
      refine ⟨_, rfl, m, C, dx, _, _, rfl, sm _ _ m1, T.cl, T.nS, mf_steps _ _ _ _, _, rfl, ls, _, (x : Int), .ref ra, rfl, rfl, sm.seq r1, r2, "abc", ra, row.map nV, rfl, SqL.of (sm _ _ r4), ?_⟩
      refine for_abc (K := K) (b := ra) (row := row) (by omega) (fun i σ H'' => ∃ (more : List (Nat × List Nat)) (v8 v9 : Option V), σ = [some (.ref m), some (nV A), some (nV r), some (nV g), some (.ref dd), some (.ref ll), some (nV (at_ + 1)), some (nV x), v8, v9] ∧ Same H H'' ∧
          H'' dd = some (.dK ((es ++ more).map enc)) ∧ H'' ll = some (.lst (((es ++ more).map (·.1)).map nV)) ∧ WayAt S k A r (es ++ more) ∧ ∀ y ∈ row.take i, A.testBit y = true → y ∈ (es ++ more).map (·.1))
        ⟨[], v8, v9, rfl, sm, by rw [List.append_nil]; exact ed, by rw [List.append_nil]; exact el, by rw [List.append_nil]; exact st, fun y hy => by simp at hy⟩ ?_ ?_ ?_
      · rintro i σ H'' ⟨_, _, _, _, s', _⟩
        exact SqL.of (s' _ _ r4)
      · rintro i y Tp σ H'' hy ⟨more, v8, v9, rfl, s', ed', el', st', hrw⟩ nT
        have hik : i < k := by
          rw [← hrow]
          exact lt_len hy
        have hxi : (es ++ more)[at_]? = some (x, wx) := by
          rw [List.getElem?_append_left hlt']
          exact hx
        have hstp : stp S x i = y := by
          unfold stp
          rw [List.getD_eq_getElem?_getD (l := S), r3, Option.getD_some, List.getD_eq_getElem?_getD, hy, Option.getD_some]
        have sT : Same H (upd H'' Tp (.tup [.str (wd [i]), nV y])) := s'.trans (same_upd nT)
        have edT : (upd H'' Tp (.tup [.str (wd [i]), nV y])) dd = some (.dK ((es ++ more).map enc)) := by
          rw [upd_ne (ne_of_none ed' nT)]
          exact ed'
        have elT : (upd H'' Tp (.tup [.str (wd [i]), nV y])) ll = some (.lst (((es ++ more).map (·.1)).map nV)) := by
          rw [upd_ne (ne_of_none el' nT)]
          exact el'
        -- letter, beside = the pair
        refine ⟨Tp, _, rfl, .inl (.inl upd_same), rfl, _, _, rfl, _, _, rfl, rfl, ?_⟩
        generalize upd H'' Tp (.tup [.str (wd [i]), nV y]) = H3 at sT edT elT ⊢
        have sz' := st'.size hA
        refine ⟨_, rfl, _, rfl, A, y, rfl, _, rfl, ite2 (fun ha => ?_) (fun ha => ?_)⟩
        · refine ⟨_, rfl, _, rfl, dd, _, rfl, DGet.k (k := Sum.inl (y : Int)) edT, _, rfl, ?_⟩
          by_cases hin : y ∈ (es ++ more).map (·.1)
          · obtain ⟨e, he, eq⟩ := List.mem_map.mp hin
            obtain ⟨j, hj⟩ := List.mem_iff_getElem?.mp he
            have hv := val_at st'.nd hj
            rw [eq] at hv
            rw [hv]
            refine iteF ⟨more, _, _, rfl, sT, edT, elT, st', fun z hz haz => ?_⟩
            rcases (take_step hy z).mp hz with h | rfl
            · exact hrw z h haz
            · exact hin
          · rw [val_none hin]
            refine iteT ?_
            have hv := val_at st'.nd hxi
            have hlx := st'.len _ _ hxi
            have hlx : wx.length ≤ at_ := hlx
            refine ⟨_, rfl, _, rfl, dd, _, rfl, by rw [← hv]; exact DGet.k (k := Sum.inl (x : Int)) edT, _, rfl, wd wx, wd [i], rfl, rfl, ?_, ?_⟩
            · rw [wd_len, wd_len]
              exact Nat.le_of_lt (small1000 (by simp; omega))
            · refine ⟨_, rfl, _, rfl, dd, _, rfl, DPut.k (k := Sum.inl (y : Int)) edT ?_, ?_⟩
              · rw [List.length_map]
                exact small1000 (by omega)
              · rw [putK_new _ (val_none hin), wd_cat]
                have elP : (upd H3 dd (.dK ((es ++ more).map enc ++ [(Sum.inl (y : Int), V.str (wd (wx ++ [i])))]))) ll = some (.lst (((es ++ more).map (·.1)).map nV)) := by
                  rw [upd_ne ndl]
                  exact elT
                refine ⟨.ref ll, rfl, .inl ⟨rfl, _, SqL.of elP⟩, _, rfl, ll, _, _, rfl, rfl, elP, ?_, ?_⟩
                · rw [List.length_map, List.length_map]
                  exact small1000 (by omega)
                · have st2 := st'.push hxi hik hstp ha hin
                  refine ⟨more ++ [(y, wx ++ [i])], _, _, rfl, same_put (same_put sT nd) nlH, ?_, ?_, ?_, fun z hz haz => ?_⟩
                  · rw [upd_ne ndl.symm, upd_same, ← List.append_assoc, List.map_append (l₁ := es ++ more)]
                    rfl
                  · rw [upd_same, ← List.append_assoc, List.map_append (l₁ := es ++ more), List.map_append (l₁ := (es ++ more).map (·.1))]
                    rfl
                  · rw [← List.append_assoc]
                    exact st2
                  · rw [← List.append_assoc, List.map_append (l₁ := es ++ more)]
                    rcases (take_step hy z).mp hz with h | rfl
                    · exact List.mem_append_left _ (hrw z h haz)
                    · exact List.mem_append_right _ (by simp)
        · refine iteF ⟨more, _, _, rfl, sT, edT, elT, st', fun z hz haz => ?_⟩
          rcases (take_step hy z).mp hz with h | rfl
          · exact hrw z h haz
          · exact absurd haz ha
      · rintro σ H'' ⟨more, v8, v9, rfl, s', ed', el', st', hrw⟩
        rw [List.take_length] at hrw
        refine ⟨es ++ more, _, _, _, rfl, ?_, s', ed', el', st', fun j e hj he y hy ha => ?_⟩
        · rw [List.length_append]
          omega
        · by_cases hja : j < at_
          · rw [List.getElem?_append_left (by omega)] at he
            have := clo j e hja he y hy ha
            rw [List.map_append]
            exact List.mem_append_left _ this
          · have e1 : j = at_ := by omega
            subst e1
            rw [List.getElem?_append_left hlt', hx] at he
            have e2 : (x, wx) = e := Option.some.inj he
            subst e2
            obtain ⟨row', f1, f2⟩ := hy
            have f1 : S[x]? = some row' := f1
            rw [r3] at f1
            cases f1
            exact hrw y f2 ha
    · have hge : at_ = es.length := by
        have h1 : ¬ at_ < es.length := fun z => hlt' (decide_eq_true (by rw [List.length_map, List.length_map]; exact z))
        omega
      subst hge
      have all : g ∈ es.map (·.1) := by
        have key : ∀ {y}, Rch S A r y → y ∈ es.map (·.1) := by
          intro y hy
          induction hy with
          | refl => exact st.hd
          | snoc _ e a ih =>
            obtain ⟨⟨z, wz⟩, hz, rfl⟩ := List.mem_map.mp ih
            obtain ⟨j, hj⟩ := List.mem_iff_getElem?.mp hz
            exact clo j _ (lt_len hj) hj _ e a
        exact key hrch
      obtain ⟨⟨g', wg⟩, he, eg⟩ := List.mem_map.mp all
      have eg : g' = g := eg
      subst eg
      obtain ⟨j, hj⟩ := List.mem_iff_getElem?.mp he
      have hv := val_at st.nd hj
      obtain ⟨o1, o2, o3, o4⟩ := st.ok _ he
      have hl := st.len _ _ hj
      have hl : wg.length ≤ j := hl
      have hjl := lt_len hj
      have hget : DGet H' dd (nV g') (valV (es.map enc) (Sum.inl (g' : Int))) := DGet.k (k := Sum.inl (g' : Int)) ed
      rw [show valV (es.map enc) (Sum.inl (g' : Int)) = some (V.str (wd wg)) from hv] at hget
      refine ⟨_, rfl, dd, rfl, .inl ⟨_, .inl ed⟩, _, rfl, _, hget, ?_⟩
      exact q H' wg sm o2 o3 o4 (by omega)
end
end Lr

set_option Elab.async false
set_option linter.all false
set_option maxRecDepth 100000
set_option maxHeartbeats 4000000
namespace Lr
open PySem PySem.Spec PyProof.Rows L2
/-- the texts of a loop: a way within it, round it -/
structure RoundAt (S : Stp) (k L room here : Nat) (is : List Nat) : Prop where
  lt : ∀ i ∈ is, i < k
  to : behind S room is = here
  sub : ∀ v ∈ ahead S room is, L.testBit v = true
theorem RoundAt.cat {S : Stp} {k L room here g : Nat} {is js : List Nat} (h : RoundAt S k L room here is) (h1 : ∀ i ∈ js, i < k) (h2 : behind S here js = g) (h3 : ∀ v ∈ ahead S here js, L.testBit v = true) : RoundAt S k L room g (is ++ js) := by
  refine ⟨fun i hi => ?_, ?_, fun v hv => ?_⟩
  · rcases List.mem_append.mp hi with hi | hi
    · exact h.lt i hi
    · exact h1 i hi
  · rw [behind_append, h.to, h2]
  · rw [ahead_append, h.to] at hv
    rcases List.mem_append.mp hv with hv | hv
    · exact h.sub v hv
    · exact h3 v hv
section
variable {P : Program} {w : World} {K : PySem.W.Frag} {mg : Str → Option Value} {base : Heap} {C : Addr}
/-! ### turning_letter -/
theorem sc_turning_letter : FnScope ["machine", "room", "letter", "beside"] ["machine", "room"] (defScope s_turning_letter) := ⟨rfl, rfl, rfl, by decide +kernel, rfl, by decide +kernel, by decide +kernel⟩
def spTurning (C : Addr) : Sp := fun vs H Q _ => ∃ (m : Addr) (S : Stp) (R : List Nat) (k r : Nat), vs = [.ref m, nV r] ∧ Mach C H m S R k ∧ Edge S r r ∧ ∀ (H' : Hp) (i : Nat), Same H H' → i < k → stp S r i = r → Q (.str (wd [i])) H'
theorem c_turning_letter (T : Txt K mg C) (F : DefA K mg "turning_letter" s_turning_letter ["machine", "room"]) : Cal P w K mg base 1 "turning_letter" (spTurning C) := by
  refine cal F sc_turning_letter (fun vs H Q E h => ?_) (fun f cdv A' outer s H vs Q E hr h => ?_)
  · obtain ⟨m, S, R, k, r, rfl, _⟩ := h
    rfl
  · obtain ⟨m, S, R, k, r, rfl, M, he, q⟩ := h
    obtain ⟨W, hRl, dx, ls, lr, m1, m2, m3⟩ := id M
    have hk3 := W.k3
    obtain ⟨tl, hlt⟩ := T.lets
    obtain ⟨rsS, ra, row, r1, r2, r3, r4⟩ := m2.row (K := K) he.src
    have hrow : row.length = k := W.row row (List.mem_of_getElem? r3)
    refine ⟨_, pss_cons (ps_for PassesOwn.never rfl (pi_zipS rfl T.zip (pa_cons (C8.pe_gc (v := .str "abc") rfl ⟨_, hlt, ⟨tl, rfl⟩⟩) (pa_cons (pe_ix ix_list (pe_fld (pv 0) rfl) (pv 1) (fun _ _ => rfl)) pa_nil)))
            (pg_tup rfl (pgs_cons (pg_name (i := 2) sc_turning_letter.nd rfl (.inl rfl)) (pgs_cons (pg_name (i := 3) sc_turning_letter.nd rfl (.inl rfl)) pgs_nil)))
          (pss_one (ps_if (pt_cmpR op_eqM (pv 3) (pv 1) (nomark _)) (pss_one (ps_ret (pv 2))) pss_nil)))
      (pss_one ps_never), ?_⟩
    refine ⟨_, rfl, m, C, dx, _, _, rfl, m1, T.cl, T.nS, mf_steps _ _ _ _, _, rfl, ls, _, (r : Int), .ref ra, rfl, rfl, r1, r2, "abc", ra, row.map nV, rfl, SqL.of r4, ?_⟩
    refine for_abc (K := K) (b := ra) (row := row) (by omega) (fun i σ H' => ∃ v2 v3 : Option V, σ = [some (.ref m), some (nV r), v2, v3] ∧ Same H H' ∧ r ∉ row.take i) ⟨none, none, rfl, Same.refl H, by simp⟩ (fun i σ H' ⟨_, _, _, s', _⟩ => SqL.of (s' _ _ r4)) ?_ ?_
    · rintro i y Tp σ H' hy ⟨v2, v3, rfl, s', hn⟩ nT
      refine ⟨Tp, _, rfl, .inl (.inl upd_same), rfl, _, _, rfl, _, _, rfl, rfl, ?_⟩
      have sT := s'.trans (same_upd (o := .tup [.str (wd [i]), nV y]) nT)
      have hik : i < k := hrow ▸ lt_len hy
      refine ⟨_, rfl, _, rfl, y, r, rfl, rfl, _, rfl, ite2 (fun e => ?_) (fun e => ?_)⟩
      · have e : y = r := of_decide_eq_true e
        refine ⟨_, rfl, q _ i sT hik ?_⟩
        unfold stp
        rw [List.getD_eq_getElem?_getD (l := S), r3, Option.getD_some, List.getD_eq_getElem?_getD, hy, Option.getD_some, e]
      · have e : ¬ y = r := fun z => e (decide_eq_true z)
        refine ⟨_, _, rfl, sT, fun z => ?_⟩
        rcases (take_step hy r).mp z with h | h
        · exact hn h
        · exact e h.symm
    · rintro σ H' ⟨v2, v3, rfl, s', hn⟩
      rw [List.take_length] at hn
      obtain ⟨row', e1, e2⟩ := he
      rw [r3] at e1
      cases e1
      exact absurd e2 hn
/-! ### round_in -/
theorem sc_round_in : FnScope ["machine", "bits", "room", "word", "here", "goal"] ["machine", "bits", "room"] (defScope s_round_in) := ⟨rfl, rfl, rfl, by decide +kernel, rfl, by decide +kernel, by decide +kernel⟩
def spRoundIn (C : Addr) : Sp := fun vs H Q _ => ∃ (m : Addr) (S : Stp) (R : List Nat) (k L r : Nat), vs = [.ref m, nV L, nV r] ∧ Mach C H m S R k ∧ Loop S L ∧ L.testBit r = true ∧
  ∀ (H' : Hp) (is : List Nat), Same H H' → (∀ i ∈ is, i < k) → behind S r is = r → (∀ v, v ∈ ahead S r is ↔ L.testBit v = true) → is ≠ [] → is.length ≤ 100 → Q (.str (wd is)) H'
theorem c_round_in (T : Txt K mg C) (F : DefA K mg "round_in" s_round_in ["machine", "bits", "room"]) (HR : Cal P w K mg base 1 "has_room" spHasRoom) (IL : Cal P w K mg base 5 "is_loop" (spIsLoop C)) (TL : Cal P w K mg base 1 "turning_letter" (spTurning C))
    (RO : Cal P w K mg base 1 "rooms_of" spRoomsOf) (WI : Cal P w K mg base 2 "way_in" (spWayIn C)) : Cal P w K mg base 6 "round_in" (spRoundIn C) := by
  refine cal F sc_round_in (fun vs H Q E h => ?_) (fun f cdv A' outer s H vs Q E hr h => ?_)
  · obtain ⟨m, S, R, k, L, r, rfl, _⟩ := h
    rfl
  · obtain ⟨m, S, R, k, L, r, rfl, M, hL, hLr, q⟩ := h
    have W := M.1
    have hn8 := W.n8
    have pw8 : 2 ^ S.length ≤ 2 ^ 8 := Nat.pow_le_pow_right (by decide) hn8
    have hLb := hL.bd W
    have hrn := hL.lt W hLr
    refine ⟨_, pss_cons (ps_if (PW.pt (pw_or (pt_not (pt_val (C8.pe_c HR hr (by decide) rfl (pa_cons (pv 1) (pa_cons (pv 2) pa_nil))))) (pw_or1 (pt_not (pt_val (C8.pe_c IL hr (by decide) rfl (pa_cons (pv 0) (pa_cons (pv 1) pa_nil)))))))) (pss_one ps_never) pss_nil)
      (pss_cons (ps_if (pt_cmpR op_eqM (pv 1) (pe_op op_oneN pe_int (pv 2)) (nomark _)) (pss_one (ps_ret (C8.pe_c TL hr (by decide) rfl (pa_cons (pv 0) (pa_cons (pv 2) pa_nil))))) pss_nil)
      (pss_cons (ps_set (i := 3) sc_round_in.nd rfl (.inl rfl) pe_str)
      (pss_cons (ps_set (i := 4) sc_round_in.nd rfl (.inl rfl) (pv 2))
      (pss_cons (ps_for PassesOwn.never rfl (pi_list (pe_op op_cat (C8.pe_c RO hr (by decide) rfl (pa_cons (pv 1) pa_nil)) (pe_lst (pa_cons (pv 2) pa_nil)))) (pg_name (i := 5) sc_round_in.nd rfl (.inl rfl))
        (pss_cons (ps_set (i := 3) sc_round_in.nd rfl (.inl rfl) (pe_op op_add_str (pv 3) (C8.pe_c WI hr (by decide) rfl (pa_cons (pv 0) (pa_cons (pv 1) (pa_cons (pv 4) (pa_cons (pv 5) pa_nil)))))))
        (pss_one (ps_set (i := 4) sc_round_in.nd rfl (.inl rfl) (pv 5)))))
      (pss_one (ps_ret (pv 3))))))), ?_⟩
    refine ⟨_, rfl, _, rfl, L, r, rfl, _, rfl, ?_⟩
    rw [hLr]
    refine iteF ⟨_, rfl, _, rfl, m, S, R, k, L, rfl, M, hL, fun H1 s1 => ⟨_, rfl, iteF ?_⟩⟩
    refine ⟨_, rfl, _, rfl, r, rfl, rfl, by omega, L, 2 ^ r, rfl, rfl, _, rfl, ite2 (fun e => ?_) (fun e => ?_)⟩
    · have e : L = 2 ^ r := of_decide_eq_true e
      have one : ∀ v, L.testBit v = true ↔ v = r := fun v => by
        rw [e, one_bit]
        exact eq_comm
      have hrr : Edge S r r := by
        obtain ⟨x, h1, h2, _⟩ := hL.all r r hLr hLr
        rw [(one x).mp h2] at h1
        exact h1
      refine ⟨_, rfl, _, rfl, m, S, R, k, r, rfl, M.same s1, hrr, fun H2 i s2 hi hst => q H2 [i] (s1.trans s2) (fun j hj => ?_) hst (fun v => ?_) (List.cons_ne_nil _ _) (by show 1 ≤ 100; decide)⟩
      · rw [List.mem_singleton.mp hj]
        exact hi
      · rw [one]
        simp [ahead]
    · have e : ¬ L = 2 ^ r := fun z => e (decide_eq_true z)
      refine ⟨_, rfl, _, rfl, L, rfl, by omega, fun H2 rl rs s2 nrl hrs hl8 erl => ?_⟩
      have s12 : Same H H2 := s1.trans s2
      refine ⟨_, rfl, by show 1 ≤ sizeLine; decide, fun p np => ?_⟩
      have erl2 : (upd H2 p (.lst [nV r])) rl = some (.lst (rs.map nV)) := by
        rw [upd_ne (ne_of_none erl np)]
        exact erl
      refine ⟨rl, p, _, _, rfl, rfl, erl2, upd_same, ?_, fun p2 np2 => ⟨p2, rfl, ⟨_, SqL.of upd_same⟩, ?_⟩⟩
      · rw [List.length_map, List.length_singleton]
        exact Nat.le_of_lt (small1000 (by omega))
      have s3 : Same H (upd (upd H2 p (.lst [nV r])) p2 (.lst (rs.map nV ++ [nV r]))) := (s12.trans (same_upd np)).trans (same_upd np2)
      have el0 : rs.map nV ++ [nV r] = (rs ++ [r]).map nV := by
        rw [List.map_append]
        rfl
      have gsub : ∀ x ∈ rs ++ [r], L.testBit x = true := fun x hx => by
        rcases List.mem_append.mp hx with hx | hx
        · exact (hrs.2 x).mp hx
        · rw [List.mem_singleton.mp hx]
          exact hLr
      refine for_list (K := K) (a := p2) (xs := (rs ++ [r]).map nV) (fun i σ H' => ∃ (is : List Nat) (here : Nat) (v5 : Option V), σ = [some (.ref m), some (nV L), some (nV r), some (.str (wd is)), some (nV here), v5] ∧ Same H H' ∧ H' p2 = some (.lst ((rs ++ [r]).map nV)) ∧
          RoundAt S k L r here is ∧ L.testBit here = true ∧ is.length ≤ 8 * i ∧ (∀ x ∈ (rs ++ [r]).take i, x ∈ ahead S r is ∨ x = here) ∧ (∀ z, i = (rs ++ [r]).length → (rs ++ [r])[i - 1]? = some z → here = z))
        ⟨[], r, none, by rw [wd_nil]; rfl, s3, by rw [upd_same, el0], ⟨fun i hi => (nomatch hi), rfl, fun v hv => (nomatch hv)⟩, hLr, Nat.le_refl _, fun x hx => by simp at hx, fun z hz => by simp at hz⟩
        (fun i σ H' _ ⟨_, _, _, _, _, ep, _⟩ => SqL.of ep) ?_ ?_
      · rintro i v σ H' hv ⟨is, here, v5, rfl, s', ep, st, hh, hlen, hx, _⟩
        obtain ⟨g, hg, rfl⟩ := nV_get hv
        have hgL := gsub g (List.mem_of_getElem? hg)
        have hi := lt_len hg
        rw [List.length_append, List.length_singleton] at hi
        refine ⟨_, rfl, _, rfl, _, rfl, _, rfl, _, rfl, m, S, R, k, L, here, g, rfl, M.same s', hLb, hh, hgL, (hL.all here g hh hgL).rch, fun H3 js s4 j1 j2 j3 j4 => ?_⟩
        refine ⟨wd is, wd js, rfl, rfl, ?_, _, rfl, ?_⟩
        · rw [wd_len, wd_len]
          exact Nat.le_of_lt (small1000 (by omega))
        · have st2 := st.cat j1 j2 j3
          refine ⟨is ++ js, g, _, by rw [wd_cat]; rfl, s'.trans s4, s4 _ _ ep, st2, hgL, ?_, fun x hx' => ?_, fun z hz he => ?_⟩
          · rw [List.length_append]
            omega
          · rcases (take_step hg x).mp hx' with h | h
            · rcases hx x h with h | h
              · refine .inl ?_
                rw [ahead_append]
                exact List.mem_append_left _ h
              · by_cases hxg : x = g
                · exact .inr hxg
                · refine .inl ?_
                  rw [ahead_append, st.to]
                  refine List.mem_append_right _ ?_
                  cases js with
                  | nil => exact absurd (h.trans j2) hxg
                  | cons j js =>
                    rw [h]
                    exact List.mem_cons_self ..
            · exact .inr h
          · rw [Nat.add_sub_cancel, hg] at he
            exact Option.some.inj he
      · rintro σ H' ⟨is, here, v5, rfl, s', ep, st, hh, hlen, hx, hlast⟩
        rw [List.length_map] at hlen hx hlast
        rw [List.take_length] at hx
        have ehr : here = r := hlast r rfl (by
          rw [List.length_append, List.length_singleton, Nat.add_sub_cancel, List.getElem?_append_right (Nat.le_refl _), Nat.sub_self]
          rfl)
        subst ehr
        -- another room of the loop
        obtain ⟨y, hy, hyr⟩ : ∃ y, L.testBit y = true ∧ y ≠ here := by
          by_cases h : ∃ y, L.testBit y = true ∧ y ≠ here
          · exact h
          · refine absurd (bits_eq fun v => ?_) e
            rw [one_bit]
            constructor
            · intro hv
              by_cases hvr : v = here
              · exact hvr.symm
              · exact absurd ⟨v, hv, hvr⟩ h
            · rintro rfl
              exact hLr
        have hyA : y ∈ ahead S here is := by
          rcases hx y (List.mem_append_left _ ((hrs.2 y).mpr hy)) with h | h
          · exact h
          · exact absurd h hyr
        have hne : is ≠ [] := fun z => by
          subst z
          exact nomatch hyA
        refine ⟨_, rfl, q H' is s' st.lt st.to (fun v => ⟨st.sub v, fun hv => ?_⟩) hne ?_⟩
        · rcases hx v (List.mem_append_left _ ((hrs.2 v).mpr hv)) with h | h
          · exact h
          · rw [h]
            cases is with
            | nil => exact absurd rfl hne
            | cons i is => exact List.mem_cons_self ..
        · rw [List.length_append, List.length_singleton] at hlen
          omega
end
end Lr

set_option Elab.async false
set_option linter.all false
set_option maxRecDepth 100000
set_option maxHeartbeats 4000000
namespace Lr
open PySem PySem.Spec PyProof.Rows L2
theorem rows_put {H : Hp} {x C dx ls : Addr} {fs : List (Str × V)} {o : HO} {S : Stp} (r : Rows H ls S) (h : H x = some (.ins C dx fs)) : Rows (upd H x o) ls S := by
  obtain ⟨rs, h1, h2, h3⟩ := r
  refine ⟨rs, ?_, h2, fun i row e => ?_⟩
  · rw [upd_ne (ne_of h1 h (by intro z; cases z))]
    exact h1
  · obtain ⟨a, e1, e2⟩ := h3 i row e
    refine ⟨a, e1, ?_⟩
    rw [upd_ne (ne_of e2 h (by intro z; cases z))]
    exact e2
theorem stp_atI {S : Stp} {r j k : Nat} {row : List Nat} (W : WF S k) (h : S[r]? = some row) (hj : j < k) : atI (row.map nV) (j : Int) = some (nV (stp S r j)) := by
  have hl := W.row row (List.mem_of_getElem? h)
  have e : row[j]? = some row[j] := List.getElem?_eq_getElem (by omega)
  refine atI_nat (get_nV ?_)
  unfold stp
  rw [List.getD_eq_getElem?_getD (l := S), h, Option.getD_some, List.getD_eq_getElem?_getD, e, Option.getD_some]
theorem occ_abc {j : Nat} (h : j < 3) : ∃ rest, Builtin.Str.occurrences ("abc" : Str) (wd [j]) 0 ("abc" : Str).length 1 = j :: rest := by
  match j, h with
  | 0, _ => exact ⟨[], by decide +kernel⟩
  | 1, _ => exact ⟨[], by decide +kernel⟩
  | 2, _ => exact ⟨[], by decide +kernel⟩
section
variable {P : Program} {w : World} {K : PySem.W.Frag} {mg : Str → Option Value} {base : Heap} {C : Addr}
/-! ### is_whole, is_step, are_steps, are_ranks -/
theorem sc_is_whole : FnScope ["thing"] ["thing"] (defScope s_is_whole) := ⟨rfl, rfl, rfl, by decide +kernel, rfl, by decide +kernel, by decide +kernel⟩
def spWhole : Sp := fun vs H Q _ => ∃ i : Int, vs = [.int i] ∧ Q (.bl true) H
theorem c_is_whole (T : Txt K mg C) (F : DefA K mg "is_whole" s_is_whole ["thing"]) : Cal P w K mg base 1 "is_whole" spWhole := by
  refine cal F sc_is_whole (fun vs H Q E h => ?_) (fun f cdv A' outer s H vs Q E hr h => ?_)
  · obtain ⟨i, rfl, _⟩ := h
    rfl
  · obtain ⟨i, rfl, q⟩ := h
    refine ⟨_, pss_one (ps_ret (pe_and (pe_callB call_isi (by rfl) T.isi (by decide +kernel) (pa_cons (pv 0) (pa_cons (pe_bltn (by rfl) T.int (by decide +kernel) (v := .ty "int") rfl) pa_nil)))
      (pe_one (pe_not (pe_callB call_isi (by rfl) T.isi (by decide +kernel) (pa_cons (pv 0) (pa_cons (pe_bltn (by rfl) T.bool (by decide +kernel) (v := .ty "bool") rfl) pa_nil))))))), ?_⟩
    refine ⟨_, rfl, _, _, _, _, true, rfl, .ty "int", .base (.int _), kit_ty (by decide +kernel), _, rfl, iteT ?_⟩
    exact ⟨_, rfl, _, _, _, _, false, rfl, .ty "bool", .base (.int _), kit_ty (by decide +kernel), _, rfl, q⟩
theorem sc_is_step : FnScope ["thing", "many", "room"] ["thing", "many"] (defScope s_is_step) := ⟨rfl, rfl, rfl, by decide +kernel, rfl, by decide +kernel, by decide +kernel⟩
def spIsStep : Sp := fun vs H Q _ => ∃ (a : Addr) (row : List Nat) (n : Nat), vs = [.ref a, nV n] ∧ H a = some (.lst (row.map nV)) ∧ 1 ≤ row.length ∧ row.length ≤ 3 ∧ (∀ x ∈ row, x < n) ∧ Q (.bl true) H
theorem c_is_step (T : Txt K mg C) (F : DefA K mg "is_step" s_is_step ["thing", "many"]) (IW : Cal P w K mg base 1 "is_whole" spWhole) : Cal P w K mg base 2 "is_step" spIsStep := by
  refine cal F sc_is_step (fun vs H Q E h => ?_) (fun f cdv A' outer s H vs Q E hr h => ?_)
  · obtain ⟨a, row, n, rfl, _⟩ := h
    rfl
  · obtain ⟨a, row, n, rfl, ea, l1, l3, hlt, q⟩ := h
    obtain ⟨tl, hlt2⟩ := T.lets
    refine ⟨_, pss_cons (ps_if (PW.pt (pw_or (pt_not (pt_val (pe_callB call_isi (by rfl) T.isi (by decide +kernel) (pa_cons (pv 0) (pa_cons (pe_bltn (by rfl) T.list (by decide +kernel) (v := .ty "list") rfl) pa_nil)))))
        (pw_or (pt_cmpR op_ltM (pe_callB call_len_seq (by rfl) T.len PySem.boot_len (pa_cons (pv 0) pa_nil)) pe_int (nomark _))
        (pw_or1 (pt_cmpR op_gtM (pe_callB call_len_seq (by rfl) T.len PySem.boot_len (pa_cons (pv 0) pa_nil)) (pe_callB call_len_str (by rfl) T.len PySem.boot_len (pa_cons (C8.pe_gc (v := .str "abc") rfl ⟨_, hlt2, ⟨tl, rfl⟩⟩) pa_nil)) (nomark _))))))
        (pss_one (ps_ret pe_bl)) pss_nil)
      (pss_cons (ps_for PassesOwn.never rfl (pi_list (pv 0)) (pg_name (i := 2) sc_is_step.nd rfl (.inl rfl))
        (pss_one (ps_if (PW.pt (pw_or (pt_not (pt_val (C8.pe_c IW hr (by decide) rfl (pa_cons (pv 2) pa_nil)))) (pw_or (pt_cmpR op_ltM (pv 2) pe_int (nomark _)) (pw_or1 (pt_cmpR op_geM (pv 2) (pv 1) (nomark _)))))) (pss_one (ps_ret pe_bl)) pss_nil)))
      (pss_one (ps_ret pe_bl))), ?_⟩
    refine ⟨_, rfl, _, _, _, _, true, rfl, .ty "list", .base (.lst ea), kit_ty (by decide +kernel), _, rfl, iteF ?_⟩
    refine ⟨_, rfl, a, _, rfl, .inl (SqL.of ea), (row.map nV).length, 1, rfl, rfl, _, rfl, ?_⟩
    rw [decide_eq_false (by rw [List.length_map]; omega)]
    refine iteF ⟨_, rfl, a, _, rfl, .inl (SqL.of ea), "abc", rfl, by decide +kernel, (row.map nV).length, 3, rfl, rfl, _, rfl, ?_⟩
    rw [decide_eq_false (by rw [List.length_map]; omega)]
    refine iteF ⟨_, rfl, a, rfl, ⟨_, SqL.of ea⟩, for_list (K := K) (a := a) (xs := row.map nV) (fun i σ H' => H' = H ∧ ∃ v : Option V, σ = [some (.ref a), some (nV n), v]) ⟨rfl, none, rfl⟩ (fun i σ H' _ ⟨e, _⟩ => e ▸ SqL.of ea) ?_ ?_⟩
    · rintro i v σ H' hv ⟨rfl, v2, rfl⟩
      obtain ⟨x, hx, rfl⟩ := nV_get hv
      have hxn := hlt x (List.mem_of_getElem? hx)
      refine ⟨_, rfl, (x : Int), rfl, _, rfl, iteF ⟨_, rfl, x, 0, rfl, rfl, _, rfl, iteF ⟨_, rfl, _, rfl, x, n, rfl, rfl, _, rfl, ?_⟩⟩⟩
      rw [decide_eq_false (by omega)]
      exact iteF ⟨rfl, _, rfl⟩
    · rintro σ H' ⟨rfl, v2, rfl⟩
      exact q
theorem sc_are_steps : FnScope ["thing", "step"] ["thing"] (defScope s_are_steps) := ⟨rfl, rfl, rfl, by decide +kernel, rfl, by decide +kernel, by decide +kernel⟩
def spAreSteps : Sp := fun vs H Q _ => ∃ (ls : Addr) (S : Stp) (k : Nat), vs = [.ref ls] ∧ Rows H ls S ∧ WF S k ∧ Q (.bl true) H
theorem c_are_steps (T : Txt K mg C) (F : DefA K mg "are_steps" s_are_steps ["thing"]) (IS : Cal P w K mg base 2 "is_step" spIsStep) : Cal P w K mg base 3 "are_steps" spAreSteps := by
  refine cal F sc_are_steps (fun vs H Q E h => ?_) (fun f cdv A' outer s H vs Q E hr h => ?_)
  · obtain ⟨ls, S, k, rfl, _⟩ := h
    rfl
  · obtain ⟨ls, S, k, rfl, hR, W, q⟩ := h
    obtain ⟨rs, h1, h2, h3⟩ := hR
    obtain ⟨tm, hmo⟩ := T.most
    have n1 := W.n1
    have n8 := W.n8
    have k1 := W.k1
    have k3 := W.k3
    refine ⟨_, pss_cons (ps_if (PW.pt (pw_or (pt_not (pt_val (pe_callB call_isi (by rfl) T.isi (by decide +kernel) (pa_cons (pv 0) (pa_cons (pe_bltn (by rfl) T.list (by decide +kernel) (v := .ty "list") rfl) pa_nil)))))
        (pw_or (pt_cmpR op_ltM (pe_callB call_len_seq (by rfl) T.len PySem.boot_len (pa_cons (pv 0) pa_nil)) pe_int (nomark _))
        (pw_or1 (pt_cmpR op_gtM (pe_callB call_len_seq (by rfl) T.len PySem.boot_len (pa_cons (pv 0) pa_nil)) (C8.pe_gc (v := .int 8) rfl ⟨_, hmo, ⟨tm, rfl⟩⟩) (nomark _))))))
        (pss_one (ps_ret pe_bl)) pss_nil)
      (pss_cons (ps_for PassesOwn.never rfl (pi_list (pv 0)) (pg_name (i := 1) sc_are_steps.nd rfl (.inl rfl))
        (pss_one (ps_if (PW.pt (pw_or (pt_not (pt_val (C8.pe_c IS hr (by decide) rfl (pa_cons (pv 1) (pa_cons (pe_callB call_len_seq (by rfl) T.len PySem.boot_len (pa_cons (pv 0) pa_nil)) pa_nil)))))
          (pw_or1 (pt_cmpR op_neM (pe_callB call_len_seq (by rfl) T.len PySem.boot_len (pa_cons (pv 1) pa_nil)) (pe_callB call_len_seq (by rfl) T.len PySem.boot_len (pa_cons (pe_ix ix_list (pv 0) pe_int (fun _ _ => rfl)) pa_nil)) (nomark _))))) (pss_one (ps_ret pe_bl)) pss_nil)))
      (pss_one (ps_ret pe_bl))), ?_⟩
    refine ⟨_, rfl, _, _, _, _, true, rfl, .ty "list", .base (.lst h1), kit_ty (by decide +kernel), _, rfl, iteF ?_⟩
    refine ⟨_, rfl, ls, _, rfl, .inl (SqL.of h1), (rs.map V.ref).length, 1, rfl, rfl, _, rfl, ?_⟩
    rw [decide_eq_false (by rw [List.length_map]; omega)]
    refine iteF ⟨_, rfl, ls, _, rfl, .inl (SqL.of h1), (rs.map V.ref).length, 8, rfl, rfl, _, rfl, ?_⟩
    rw [decide_eq_false (by rw [List.length_map]; omega)]
    obtain ⟨a0, f1, f2⟩ := h3 0 S[0] (List.getElem?_eq_getElem (by omega))
    have l0 := W.row S[0] (List.getElem_mem _)
    refine iteF ⟨_, rfl, ls, rfl, ⟨_, SqL.of h1⟩, for_list (K := K) (a := ls) (xs := rs.map V.ref) (fun i σ H' => H' = H ∧ ∃ v : Option V, σ = [some (.ref ls), v]) ⟨rfl, none, rfl⟩ (fun i σ H' _ ⟨e, _⟩ => e ▸ SqL.of h1) ?_ ?_⟩
    · rintro i v σ H' hv ⟨rfl, v2, rfl⟩
      rw [List.getElem?_map] at hv
      have hi : i < S.length := by
        cases e : rs[i]? with
        | none =>
          rw [e] at hv
          cases hv
        | some y => exact h2 ▸ lt_len e
      obtain ⟨a, e1, e2⟩ := h3 i S[i] (List.getElem?_eq_getElem hi)
      rw [e1] at hv
      have ev : V.ref a = v := Option.some.inj hv
      subst ev
      have li := W.row S[i] (List.getElem_mem _)
      refine ⟨_, rfl, _, rfl, ls, _, rfl, .inl (SqL.of h1), a, S[i], (rs.map V.ref).length, rfl, e2, by omega, by omega, fun x hx => ?_, _, rfl, iteF ?_⟩
      · rw [List.length_map, h2]
        exact W.lt S[i] (List.getElem_mem _) x hx
      · refine ⟨_, rfl, a, _, rfl, .inl (SqL.of e2), _, rfl, ls, _, 0, .ref a0, rfl, rfl, SqL.of h1, atI_nat (j := 0) (by rw [List.getElem?_map, f1]; rfl), a0, _, rfl, .inl (SqL.of f2), (S[i].map nV).length, (S[0].map nV).length, rfl, rfl, _, rfl, ?_⟩
        rw [List.length_map, List.length_map, li, l0, decide_eq_true rfl]
        exact iteF ⟨rfl, _, rfl⟩
    · rintro σ H' ⟨rfl, v2, rfl⟩
      exact q
theorem sc_are_ranks : FnScope ["thing", "many", "rank"] ["thing", "many"] (defScope s_are_ranks) := ⟨rfl, rfl, rfl, by decide +kernel, rfl, by decide +kernel, by decide +kernel⟩
def spAreRanks : Sp := fun vs H Q _ => ∃ (lr : Addr) (R : List Nat), vs = [.ref lr, nV R.length] ∧ H lr = some (.lst (R.map nV)) ∧ Q (.bl true) H
theorem c_are_ranks (T : Txt K mg C) (F : DefA K mg "are_ranks" s_are_ranks ["thing", "many"]) (IW : Cal P w K mg base 1 "is_whole" spWhole) : Cal P w K mg base 2 "are_ranks" spAreRanks := by
  refine cal F sc_are_ranks (fun vs H Q E h => ?_) (fun f cdv A' outer s H vs Q E hr h => ?_)
  · obtain ⟨lr, R, rfl, _⟩ := h
    rfl
  · obtain ⟨lr, R, rfl, el, q⟩ := h
    refine ⟨_, pss_cons (ps_if (PW.pt (pw_or (pt_not (pt_val (pe_callB call_isi (by rfl) T.isi (by decide +kernel) (pa_cons (pv 0) (pa_cons (pe_bltn (by rfl) T.list (by decide +kernel) (v := .ty "list") rfl) pa_nil)))))
        (pw_or1 (pt_cmpR op_neM (pe_callB call_len_seq (by rfl) T.len PySem.boot_len (pa_cons (pv 0) pa_nil)) (pv 1) (nomark _)))))
        (pss_one (ps_ret pe_bl)) pss_nil)
      (pss_cons (ps_for PassesOwn.never rfl (pi_list (pv 0)) (pg_name (i := 2) sc_are_ranks.nd rfl (.inl rfl))
        (pss_one (ps_if (PW.pt (pw_or (pt_not (pt_val (C8.pe_c IW hr (by decide) rfl (pa_cons (pv 2) pa_nil)))) (pw_or1 (pt_cmpR op_ltM (pv 2) pe_int (nomark _))))) (pss_one (ps_ret pe_bl)) pss_nil)))
      (pss_one (ps_ret pe_bl))), ?_⟩
    refine ⟨_, rfl, _, _, _, _, true, rfl, .ty "list", .base (.lst el), kit_ty (by decide +kernel), _, rfl, iteF ?_⟩
    refine ⟨_, rfl, lr, _, rfl, .inl (SqL.of el), _, rfl, (R.map nV).length, R.length, rfl, rfl, _, rfl, ?_⟩
    rw [List.length_map, decide_eq_true rfl]
    refine iteF ⟨_, rfl, lr, rfl, ⟨_, SqL.of el⟩, for_list (K := K) (a := lr) (xs := R.map nV) (fun i σ H' => H' = H ∧ ∃ v : Option V, σ = [some (.ref lr), some (nV R.length), v]) ⟨rfl, none, rfl⟩ (fun i σ H' _ ⟨e, _⟩ => e ▸ SqL.of el) ?_ ?_⟩
    · rintro i v σ H' hv ⟨rfl, v2, rfl⟩
      obtain ⟨x, hx, rfl⟩ := nV_get hv
      exact ⟨_, rfl, (x : Int), rfl, _, rfl, iteF ⟨_, rfl, x, 0, rfl, rfl, _, rfl, iteF ⟨rfl, _, rfl⟩⟩⟩
    · rintro σ H' ⟨rfl, v2, rfl⟩
      exact q
/-! ### the class: methods -/
/-- a method of Machine as it stands behind the top; dvs: its defaults -/
def DefM (K : PySem.W.Frag) (C : Addr) (x qual : Str) (st : Stmt) (ps : List Str) : Prop :=
  ∃ (f : Addr) (fd : FuncData) (dvs : List V) (ds : List Value), FunD K x qual (defArgs st) (defBody st) (defScope st) dvs [] f fd ∧ Meth K C x f ∧ Vals [] ds ∧ Binds K fd ps ds
abbrev Met (P : Program) (w : World) (K : PySem.W.Frag) (mg : Str → Option Value) (base : Heap) (k : Nat) (C : Addr) (x : Str) (sp : Sp) : Prop := C8.Met P w K mg base k C x sp []
theorem met {x qual : Str} {st : Stmt} {N ps : List Str} {k : Nat} {sp : Sp} (c : Cls K C) (F : DefM K C x qual st ps) (S : FnScope N ps (defScope st)) (len : ∀ vs H Q E, sp vs H Q E → vs.length = ps.length)
    (hbody : ∀ (f : Addr) (cdv : Value) (A : Around) (outer : List Env) (s : Shared) (H : Hp) (vs : List V) (Q : VK) (E : XK), Room k (A.deeper (envOfC qual (defScope st) s.heap.objs.size f cdv)) → sp vs H Q E →
      ∃ t, PSs (cxOf C8.CX0 P w K mg base N qual (defScope st) f cdv A outer s H E).nox (defBody st) t ∧ t { nx := fun _ H' => Q .non H', rt := Q } (start N vs) H) : Met P w K mg base (k + 1) C x sp := by
  obtain ⟨f, fd, dvs, ds, D, hm, hv, b⟩ := F
  exact ⟨f, fd, ps, ds, c, hm, D.ok S len (fun cdv A outer s H vs Q E hr h => let ⟨t, p, q⟩ := hbody f cdv A outer s H vs Q E hr h; ⟨t, p.nox, q⟩), b, hv⟩
theorem sc_need : FnScope ["self", "room"] ["self", "room"] (defScope m_need) := ⟨rfl, rfl, rfl, by decide +kernel, rfl, by decide +kernel, by decide +kernel⟩
def spNeed (C : Addr) : Sp := fun vs H Q _ => ∃ (m : Addr) (S : Stp) (R : List Nat) (k r : Nat), vs = [.ref m, nV r] ∧ Mach C H m S R k ∧ r < S.length ∧ Q .non H
theorem c_need (T : Txt K mg C) (F : DefM K C "need" "Machine.need" m_need ["self", "room"]) (IW : Cal P w K mg base 1 "is_whole" spWhole) : Met P w K mg base 2 C "need" (spNeed C) := by
  refine met T.cl F sc_need (fun vs H Q E h => ?_) (fun f cdv A' outer s H vs Q E hr h => ?_)
  · obtain ⟨m, S, R, k, r, rfl, _⟩ := h
    rfl
  · obtain ⟨m, S, R, k, r, rfl, M, hrn, q⟩ := h
    obtain ⟨W, hRl, dx, ls, lr, m1, m2, m3⟩ := id M
    refine ⟨_, pss_one (ps_if (PW.pt (pw_or (pt_not (pt_val (C8.pe_c IW hr (by decide) rfl (pa_cons (pv 1) pa_nil)))) (pw_or (pt_cmpR op_ltM (pv 1) pe_int (nomark _)) (pw_or1 (pt_cmpR op_geM (pv 1) (pe_fld (pv 0) rfl) (nomark _)))))) (pss_one ps_never) pss_nil), ?_⟩
    refine ⟨_, rfl, (r : Int), rfl, _, rfl, iteF ⟨_, rfl, r, 0, rfl, rfl, _, rfl, iteF ⟨_, rfl, _, rfl, m, C, dx, _, _, rfl, m1, T.cl, T.nM, mf_many _ _ _ _, r, S.length, rfl, rfl, _, rfl, ?_⟩⟩⟩
    rw [decide_eq_false (by omega)]
    exact iteF q
theorem sc_along : FnScope ["self", "room", "text", "found", "letter"] ["self", "room", "text"] (defScope m_along) := ⟨rfl, rfl, rfl, by decide +kernel, rfl, by decide +kernel, by decide +kernel⟩
def spAlong (C : Addr) : Sp := fun vs H Q _ => ∃ (m : Addr) (S : Stp) (R : List Nat) (k r : Nat) (is : List Nat), vs = [.ref m, nV r, .str (wd is)] ∧ Mach C H m S R k ∧ r < S.length ∧ (∀ i ∈ is, i < k) ∧ is.length ≤ 1000 ∧
  ∀ (H' : Hp) (t p : Addr), Same H H' → H p = none → H' t = some (.tup [.ref p, nV (behind S r is)]) → H' p = some (.lst ((ahead S r is).map nV)) → Q (.ref t) H'
theorem c_along (T : Txt K mg C) (F : DefM K C "along" "Machine.along" m_along ["self", "room", "text"]) : Met P w K mg base 1 C "along" (spAlong C) := by
  refine met T.cl F sc_along (fun vs H Q E h => ?_) (fun f cdv A' outer s H vs Q E hr h => ?_)
  · obtain ⟨m, S, R, k, r, is, rfl, _⟩ := h
    rfl
  · obtain ⟨m, S, R, k, r, is, rfl, M, hrn, his, hlen, q⟩ := h
    obtain ⟨W, hRl, dx, ls, lr, m1, m2, m3⟩ := id M
    have hk3 := W.k3
    obtain ⟨tl, hlt⟩ := T.lets
    refine ⟨_, pss_cons (ps_set (i := 3) sc_along.nd rfl (.inl rfl) (pe_lst pa_nil))
      (pss_cons (ps_for PassesOwn.never rfl (pi_str (pv 2)) (pg_name (i := 4) sc_along.nd rfl (.inl rfl))
        (pss_cons (ps_expr (pe_bm PySem.F.plainAttrs_list PySem.F.slot_list_append PySem.F.type_list_append mt_append (pv 3) (pa_cons (pv 1) pa_nil)))
        (pss_one (ps_set (i := 1) sc_along.nd rfl (.inl rfl) (pe_ix ix_list (pe_ix ix_list (pe_fld (pv 0) rfl) (pv 1) (fun _ _ => rfl)) (pe_m1 PySem.F.slot_str_index PySem.F.type_str_index mt_sindex (C8.pe_gc (v := .str "abc") rfl ⟨_, hlt, ⟨tl, rfl⟩⟩) (pv 4)) (fun _ _ => rfl))))))
      (pss_one (ps_ret (pe_tup (pa_cons (pv 3) (pa_cons (pv 1) pa_nil)))))), ?_⟩
    refine ⟨Nat.zero_le _, fun o no => ⟨_, rfl, wd is, rfl, for_str (fun i σ H' => ∃ v4 : Option V, σ = [some (.ref m), some (nV (behind S r (is.take i))), some (.str (wd is)), some (.ref o), v4] ∧ Same H H' ∧ H' o = some (.lst ((ahead S r (is.take i)).map nV)))
      ⟨none, rfl, same_upd no, upd_same⟩ ?_ ?_⟩⟩
    · rintro i c σ H' hc ⟨v4, rfl, s', eo⟩
      obtain ⟨j, hj, rfl⟩ := wd_at hc
      have hjk : j < k := his j (List.mem_of_getElem? hj)
      have hil := lt_len hj
      have hbn : behind S r (is.take i) < S.length := behind_lt W hrn fun x hx => his x (List.mem_of_mem_take hx)
      obtain ⟨rsS, ra, row, r1, r2, r3, r4⟩ := m2.row (K := K) hbn
      have so : Same H (upd H' o (.lst ((ahead S r (is.take i)).map nV ++ [nV (behind S r (is.take i))]))) := same_put s' no
      refine ⟨.ref o, rfl, .inl ⟨rfl, _, SqL.of eo⟩, _, rfl, o, _, _, rfl, rfl, eo, ?_, ?_⟩
      · rw [List.length_map, ahead_length, List.length_take]
        exact small1000 (by omega)
      · obtain ⟨rest, hocc⟩ := occ_abc (show j < 3 by omega)
        refine ⟨_, rfl, m, C, dx, _, _, rfl, so _ _ m1, T.cl, T.nS, mf_steps _ _ _ _, _, rfl, ls, _, ((behind S r (is.take i) : Nat) : Int), .ref ra, rfl, rfl, so.seq r1, r2, ⟨_, rfl⟩, _, rfl, "abc", wd [j], j, rest, rfl, rfl, hocc, ra, _, (j : Int), _, rfl, rfl, SqL.of (so _ _ r4), stp_atI W r3 hjk, ?_⟩
        have et : is.take (i + 1) = is.take i ++ [j] := by
          rw [List.take_add_one, hj]
          rfl
        refine ⟨some (.str (wd [j])), ?_, so, ?_⟩
        · rw [et, behind_append]
          rfl
        · rw [et, ahead_append, upd_same, List.map_append]
          rfl
    · rintro σ H' ⟨v4, rfl, s', eo⟩
      rw [wd_size, List.take_length] at *
      refine ⟨_, rfl, _, rfl, by show 2 ≤ sizeLine; decide, fun t nt => ?_⟩
      exact q _ t o (s'.trans (same_upd nt)) no upd_same (by rw [upd_ne (ne_of_none eo nt)]; exact eo)
end
end Lr

set_option Elab.async false
set_option linter.all false
set_option maxRecDepth 100000
set_option maxHeartbeats 4000000
namespace Lr
open PySem PySem.Spec PyProof.Rows L2
theorem cut_from {A B : List V} : cutV (A ++ B) (some ((A.length : Nat) : Int)) none = B := by
  unfold cutV
  rw [HT.sIx_nat, HT.sIx_none, List.length_append, Nat.min_eq_left (Nat.le_add_right _ _), List.drop_left, Nat.add_sub_cancel_left]
  exact List.take_length
section
variable {P : Program} {w : World} {K : PySem.W.Frag} {mg : Str → Option Value} {base : Heap} {C : Addr}
/-! ### walk -/
theorem sc_walk : FnScope ["self", "word", "room", "way", "here", "begun", "rooms", "at"] ["self", "word", "room"] (defScope m_walk) := ⟨rfl, rfl, rfl, by decide +kernel, rfl, by decide +kernel, by decide +kernel⟩
/-- what a walk asks: a machine, a room of it, a word told so that its round leads back to where the beginning leads -/
structure WalkOk (S : Stp) (k r : Nat) (a b : List Nat) : Prop where
  rn : r < S.length
  la : ∀ i ∈ a, i < k
  lb : ∀ i ∈ b, i < k
  b0 : b ≠ []
  na : a.length ≤ 1000
  nb : b.length ≤ 1000
  back : behind S (behind S r a) b = behind S r a
def spWalk (C : Addr) : Sp := fun vs H Q _ => ∃ (m t : Addr) (S : Stp) (R : List Nat) (k r : Nat) (a b : List Nat), vs = [.ref m, .ref t, nV r] ∧ Mach C H m S R k ∧ H t = some (.tup [.str (wd a), .str (wd b)]) ∧ WalkOk S k r a b ∧
  ∀ (H' : Hp) (u p1 p2 : Addr), Same H H' → H' u = some (.tup [.ref p1, .ref p2]) → H' p2 = some (.lst ((ahead S (behind S r a) b).map nV)) → Q (.ref u) H'
theorem c_walk (T : Txt K mg C) (F : DefM K C "walk" "Machine.walk" m_walk ["self", "word", "room"]) (NE : Met P w K mg base 2 C "need" (spNeed C)) (IE : Cal P w K mg base 2 "is_endless" spIsEndless) (AL : Met P w K mg base 1 C "along" (spAlong C)) : Met P w K mg base 3 C "walk" (spWalk C) := by
  refine met T.cl F sc_walk (fun vs H Q E h => ?_) (fun f cdv A' outer s H vs Q E hr h => ?_)
  · obtain ⟨m, t, S, R, k, r, a, b, rfl, _⟩ := h
    rfl
  · obtain ⟨m, t, S, R, k, r, a, b, rfl, M, et, ok, q⟩ := h
    obtain ⟨W, hRl, dx, ls, lr, m1, m2, m3⟩ := id M
    have hu := hu_of hr
    have k1 := W.k1
    have k3 := W.k3
    have gn : behind S r a < S.length := behind_lt W ok.rn ok.la
    refine ⟨_, pss_cons (ps_expr (C8.pe_mt NE hr (by decide) (pv 0) (pa_cons (pv 2) pa_nil)))
      (pss_cons (ps_if (pt_not (pt_val (C8.pe_c IE hr (by decide) rfl (pa_cons (pv 1) (pa_cons (pe_fld (pv 0) rfl) pa_nil))))) (pss_one ps_never) pss_nil)
      (pss_cons (ps_asg (C8.pe_mt AL hr (by decide) (pv 0) (pa_cons (pv 2) (pa_cons (pe_ix ix_tup (pv 1) pe_int (fun _ _ => rfl)) pa_nil))) (pg_tup rfl (pgs_cons (pg_name (i := 3) sc_walk.nd rfl (.inl rfl)) (pgs_cons (pg_name (i := 4) sc_walk.nd rfl (.inl rfl)) pgs_nil))))
      (pss_cons (ps_set (i := 5) sc_walk.nd rfl (.inl rfl) pe_dnewK)
      (pss_cons (ps_while PassesOwn.never (pt_cmp (pc_dnotin hu (pv 4) (pv 5)))
        (pss_cons (ps_dput hu (pv 5) (pv 4) (pe_callB call_len_seq (by rfl) T.len PySem.boot_len (pa_cons (pv 3) pa_nil)) rfl)
        (pss_cons (ps_asg (C8.pe_mt AL hr (by decide) (pv 0) (pa_cons (pv 4) (pa_cons (pe_ix ix_tup (pv 1) pe_int (fun _ _ => rfl)) pa_nil))) (pg_tup rfl (pgs_cons (pg_name (i := 6) sc_walk.nd rfl (.inl rfl)) (pgs_cons (pg_name (i := 4) sc_walk.nd rfl (.inl rfl)) pgs_nil))))
        (pss_one (ps_expr (pe_bm PySem.F.plainAttrs_list PySem.F.slot_list_extend PySem.F.type_list_extend mt_extend (pv 3) (pa_cons (pv 6) pa_nil)))))))
      (pss_cons (ps_set (i := 7) sc_walk.nd rfl (.inl rfl) (pe_dget hu (pv 5) (pv 4) (fun _ _ => rfl)))
      (pss_one (ps_ret (pe_tup (pa_cons (pe_slice sl_list (pv 3) po_none (po_some (pv 7))) (pa_cons (pe_slice sl_list (pv 3) (po_some (pv 7)) po_none) pa_nil)))))))))), ?_⟩
    have noA : (mf ls lr S.length k).lookup ("along" : Str) = none := by rfl
    -- self.need(room); is_endless(word, self.letters)
    refine ⟨_, rfl, m, dx, _, rfl, m1, by rfl, _, rfl, m, S, R, k, r, rfl, M, ok.rn, ?_⟩
    refine ⟨_, rfl, _, rfl, m, C, dx, _, _, rfl, m1, T.cl, T.nL, mf_letters _ _ _ _, t, a, b, k, rfl, et, k1, k3, ok.la, ok.lb, ok.b0, _, rfl, iteF ?_⟩
    -- way, here = self.along(room, word[0])
    refine ⟨_, rfl, m, dx, _, rfl, m1, noA, _, rfl, _, rfl, t, _, 0, _, rfl, rfl, .inl (.inl et), rfl, m, S, R, k, r, a, rfl, M, ok.rn, ok.la, ok.na, fun H1 u p s1 np eu ep => ?_⟩
    refine ⟨u, _, rfl, .inl (.inl eu), rfl, _, _, rfl, _, _, rfl, rfl, fun dd nd => ?_⟩
    have nddH : H dd = none := s1.free nd
    have npd : p ≠ dd := ne_of_none ep nd
    generalize hg : behind S r a = g at gn eu q
    have hback : behind S g b = g := hg ▸ ok.back
    have lA : (ahead S r a).length ≤ 1000 := by
      rw [ahead_length]
      exact ok.na
    have lB : (ahead S g b).length ≤ 1000 := by
      rw [ahead_length]
      exact ok.nb
    generalize ahead S r a = A at ep lA
    refine ⟨fun μ σ H' => ∃ v6 : Option V, σ = [some (.ref m), some (.ref t), some (nV r), some (.ref p), some (nV g), some (.ref dd), v6, none] ∧ Same H H' ∧
        ((μ = 1 ∧ H' dd = some (.dK []) ∧ H' p = some (.lst (A.map nV))) ∨ (μ = 0 ∧ H' dd = some (.dK [(Sum.inl (g : Int), nV A.length)]) ∧ H' p = some (.lst ((A ++ ahead S g b).map nV)))),
      ⟨1, none, rfl, s1.trans (same_upd nd), .inl ⟨rfl, upd_same, by rw [upd_ne npd]; exact ep⟩⟩, ?_⟩
    rintro μ σ H' ⟨v6, rfl, sm, h | h⟩
    · obtain ⟨rfl, ed, ep'⟩ := h
      refine ⟨_, rfl, _, rfl, dd, _, rfl, DGet.k (k := Sum.inl (g : Int)) ed, _, rfl, iteT ?_⟩
      refine ⟨fun σ' H'' => ∃ v6 : Option V, σ' = [some (.ref m), some (.ref t), some (nV r), some (.ref p), some (nV g), some (.ref dd), v6, none] ∧ Same H H'' ∧ H'' dd = some (.dK [(Sum.inl (g : Int), nV A.length)]) ∧ H'' p = some (.lst ((A ++ ahead S g b).map nV)),
        fun σ' H'' ⟨v6, e1, e2, e3, e4⟩ => ⟨0, by decide, v6, e1, e2, .inr ⟨rfl, e3, e4⟩⟩, ?_⟩
      refine ⟨_, rfl, p, _, rfl, .inl (SqL.of ep'), _, rfl, _, rfl, dd, _, rfl, DPut.k (k := Sum.inl (g : Int)) ed (by decide), ?_⟩
      have ed2 : (upd H' dd (.dK (putK [] (Sum.inl (g : Int)) (V.int ((A.map nV).length : Int))))) dd = some (.dK [(Sum.inl (g : Int), nV A.length)]) := by
        rw [upd_same, List.length_map]
        rfl
      have ep2 : (upd H' dd (.dK (putK [] (Sum.inl (g : Int)) (V.int ((A.map nV).length : Int))))) p = some (.lst (A.map nV)) := by
        rw [upd_ne npd]
        exact ep'
      have sm2 : Same H (upd H' dd (.dK (putK [] (Sum.inl (g : Int)) (V.int ((A.map nV).length : Int))))) := same_put sm nddH
      generalize upd H' dd (.dK (putK [] (Sum.inl (g : Int)) (V.int ((A.map nV).length : Int)))) = H2 at ed2 ep2 sm2 ⊢
      -- rooms, here = self.along(here, word[1])
      refine ⟨_, rfl, m, dx, _, rfl, sm2 _ _ m1, noA, _, rfl, _, rfl, t, _, 1, _, rfl, rfl, .inl (.inl (sm2 _ _ et)), rfl, m, S, R, k, g, b, rfl, M.same sm2, gn, ok.lb, ok.nb, fun H3 u2 p3 s3 np3 eu3 ep3 => ?_⟩
      rw [hback] at eu3
      refine ⟨u2, _, rfl, .inl (.inl eu3), rfl, _, _, rfl, _, _, rfl, rfl, ?_⟩
      refine ⟨_, rfl, .inl ⟨rfl, _, SqL.of (s3 _ _ ep2)⟩, _, rfl, p, p3, _, _, rfl, rfl, s3 _ _ ep2, ep3, ?_, ?_⟩
      · rw [List.length_map, List.length_map]
        exact Nat.le_trans (Nat.add_le_add lA lB) (by decide)
      · refine ⟨_, rfl, same_put (sm2.trans s3) np, ?_, ?_⟩
        · rw [upd_ne npd.symm]
          exact s3 _ _ ed2
        · rw [upd_same, List.map_append]
    · obtain ⟨rfl, ed, ep'⟩ := h
      have hv : valV [((Sum.inl (g : Int) : Key), nV A.length)] (Sum.inl (g : Int)) = some (nV A.length) := valV_pos rfl
      have hget : DGet H' dd (nV g) (some (nV A.length)) := by
        rw [← hv]
        exact DGet.k (k := Sum.inl (g : Int)) ed
      refine ⟨_, rfl, _, rfl, dd, _, rfl, hget, _, rfl, iteF ?_⟩
      refine ⟨_, rfl, _, rfl, dd, _, rfl, hget, ?_⟩
      -- (way[:at], way[at:])
      refine ⟨.ref p, rfl, _, rfl, _, rfl, p, _, rfl, SqL.of ep', fun p1 n1 => ?_⟩
      refine ⟨.ref p, rfl, _, rfl, _, rfl, p, _, rfl, SqL.of (by rw [upd_ne (ne_of_none ep' n1)]; exact ep'), fun p2 n2 => ?_⟩
      refine ⟨by show 2 ≤ sizeLine; decide, fun u2 nu => ?_⟩
      refine q _ u2 p1 p2 (((sm.trans (same_upd n1)).trans (same_upd n2)).trans (same_upd nu)) upd_same ?_
      have nu2 : p2 ≠ u2 := fun e => by
        rw [← e, upd_same] at nu
        cases nu
      rw [upd_ne nu2, upd_same, List.map_append]
      have e : (A.map nV).length = A.length := List.length_map ..
      have := cut_from (A := A.map nV) (B := (ahead S g b).map nV)
      rw [e] at this
      exact congrArg (fun l => some (HO.lst l)) this
/-! ### lets -/
abbrev n_lets : List Str := ["self", "word", "room", "ring", "one"]
theorem sc_lets : FnScope n_lets ["self", "word", "room"] (defScope m_lets) := ⟨rfl, rfl, rfl, by decide +kernel, rfl, by decide +kernel, by decide +kernel⟩
def spLets (C : Addr) : Sp := fun vs H Q _ => ∃ (m t : Addr) (S : Stp) (R : List Nat) (k r L : Nat) (a b : List Nat), vs = [.ref m, .ref t, nV r] ∧ Mach C H m S R k ∧ H t = some (.tup [.str (wd a), .str (wd b)]) ∧ WalkOk S k r a b ∧ (∀ v, v ∈ ahead S (behind S r a) b ↔ L.testBit v = true) ∧
  ∀ (H' : Hp) (t : Nat), Same H H' → Top R L t → Q (.bl (decide (t % 2 = 0))) H'
theorem c_lets (T : Txt K mg C) (F : DefM K C "lets" "Machine.lets" m_lets ["self", "word", "room"]) (WA : Met P w K mg base 3 C "walk" (spWalk C)) : Met P w K mg base 4 C "lets" (spLets C) := by
  refine met T.cl F sc_lets (fun vs H Q E h => ?_) (fun f cdv A' outer s H vs Q E hr h => ?_)
  · obtain ⟨m, t, S, R, k, r, L, a, b, rfl, _⟩ := h
    rfl
  · obtain ⟨m, t, S, R, k, r, L, a, b, rfl, M, et, ok, hL, q⟩ := h
    obtain ⟨W, hRl, dx, ls, lr, m1, m2, m3⟩ := id M
    refine ⟨_, pss_cons (ps_set (i := 3) sc_lets.nd rfl (.inl rfl) (pe_ix ix_tup (C8.pe_mt WA hr (by decide) (pv 0) (pa_cons (pv 1) (pa_cons (pv 2) pa_nil))) pe_int (fun _ _ => rfl)))
      (pss_one (ps_ret (pe_cmpR op_eqM (pe_op op_modM (pe_callB (cr_max rfl) (by rfl) T.max (by decide +kernel) (pa_cons
        (pe_lc (own := [("one", 4)]) (g := gName 4) (te := tOp (rIxL K) (tFld K (tVar 0) ("ranks" : Str)) (tVar 4)) rfl sc_lets.nd (pi_list (pv 3))
          (blkOk_by (own := [("one", 4)]) (N := n_lets) (sc := defScope m_lets) (by decide +kernel))
          (fun _ _ _ _ _ => pg_name (i := 4) sc_lets.nd rfl (.inl rfl)) (fun _ _ _ _ _ => pts_nil)
          (fun _ _ _ _ _ => pe_ix ix_list (pe_fld (pv 0) rfl) (pv 4) (fun _ _ => rfl))) pa_nil)) pe_int) pe_int (nomark _)))), ?_⟩
    refine ⟨_, rfl, m, dx, _, rfl, m1, by rfl, _, rfl, _, rfl, m, t, S, R, k, r, a, b, rfl, M, et, ok, fun H1 u p1 p2 s1 eu ep2 => ?_⟩
    refine ⟨u, _, 1, .ref p2, rfl, rfl, .inl (.inl eu), rfl, ?_⟩
    have gn : behind S r a < S.length := behind_lt W ok.rn ok.la
    have hrs : ∀ v ∈ ahead S (behind S r a) b, v < S.length := ahead_lt W gn ok.lb
    have lB : (ahead S (behind S r a) b).length ≤ 1000 := by
      rw [ahead_length]
      exact ok.nb
    have hne : 0 < (ahead S (behind S r a) b).length := by
      rw [ahead_length]
      exact List.length_pos_iff.mpr ok.b0
    generalize ahead S (behind S r a) b = rs at ep2 hL hrs lB hne
    refine ⟨_, rfl, p2, rfl, ⟨_, SqL.of ep2⟩, fun D nD => ?_⟩
    refine lc_list (K := K) (a := p2) (xs := rs.map nV) (fun i H' => Same H1 H' ∧ H' D = some (.lst (((rs.take i).map (rk R)).map nV)))
      ⟨same_upd nD, upd_same⟩ (fun i H' _ ⟨s', _⟩ => SqL.of (s' _ _ ep2)) ?_ ?_
    · rintro i v H' hv ⟨s', eD⟩
      obtain ⟨x, hxi, rfl⟩ := nV_get hv
      have hi := lt_len hxi
      have hxn := hrs x (List.mem_of_getElem? hxi)
      have sH : Same H H' := s1.trans s'
      refine ⟨rfl, _, rfl, m, C, dx, _, _, rfl, sH _ _ m1, T.cl, T.nR, mf_ranks _ _ _ _, _, rfl, lr, _, (x : Int), _, rfl, rfl, SqL.of (sH _ _ m3), rk_atI (by omega), _, eD, ?_, ?_, ?_⟩
      · rw [List.length_map, List.length_map, List.length_take]
        exact small1000 (by omega)
      · exact same_put s' nD
      · rw [upd_same, List.take_add_one, hxi, List.map_append, List.map_append]
        rfl
    · rintro H' ⟨s', eD⟩
      rw [List.length_map, List.take_length] at eD
      refine ⟨D, ((rs.map (rk R)).map fun x : Nat => (x : Int)), rfl, SqL.of (by rw [eD, map_nV]), ?_, fun t ht hle => ?_⟩
      · rw [List.length_map, List.length_map]
        exact hne
      · obtain ⟨t', ht', rfl⟩ := List.mem_map.mp ht
        refine ⟨t', 2, rfl, rfl, by decide, t' % 2, 0, rfl, rfl, q H' t' (s1.trans s') (top_of hL hRl hrs ht' fun x hx => ?_)⟩
        have := hle x (List.mem_map.mpr ⟨x, hx, rfl⟩)
        omega
/-! ### the making of a machine -/
abbrev n_init : List Str := ["self", "steps", "ranks", "step"]
theorem sc_init : FnScope n_init ["self", "steps", "ranks"] (defScope m_init) := ⟨rfl, rfl, rfl, by decide +kernel, rfl, by decide +kernel, by decide +kernel⟩
def spInit (C : Addr) : Sp := fun vs H Q _ => ∃ (H0 : Hp) (x ls lr dx : Addr) (S : Stp) (R : List Nat) (k : Nat), vs = [.ref x, .ref ls, .ref lr] ∧ Same H0 H ∧ H0 x = none ∧ H x = some (.ins C dx []) ∧ Rows H ls S ∧ H lr = some (.lst (R.map nV)) ∧ WF S k ∧ R.length = S.length ∧
  ∀ H' : Hp, Same H0 H' → Mach C H' x S R k → Q .non H'
theorem c_init {f : Addr} {fd : FuncData} (T : Txt K mg C) (F : FunD K "__init__" "Machine.__init__" (defArgs m_init) (defBody m_init) (defScope m_init) [] [] f fd) (AS : Cal P w K mg base 3 "are_steps" spAreSteps) (AR : Cal P w K mg base 2 "are_ranks" spAreRanks) :
    FnOk P w K mg base C8.CX0 4 f fd ["self", "steps", "ranks"] (spInit C) := by
  refine F.ok sc_init (fun vs H Q E h => ?_) (fun cdv A' outer s H vs Q E hr h => ?_)
  · obtain ⟨H0, x, ls, lr, dx, S, R, k, rfl, _⟩ := h
    rfl
  · obtain ⟨H0, x, ls, lr, dx, S, R, k, rfl, s0, nx, ex, hR, elr, W, hRl, q⟩ := h
    obtain ⟨rs, h1, h2, h3⟩ := id hR
    have n1 := W.n1
    have n8 := W.n8
    refine ⟨_, PSs.nox (pss_cons (ps_if (PW.pt (pw_or (pt_not (pt_val (C8.pe_c AS hr (by decide) rfl (pa_cons (pv 1) pa_nil)))) (pw_or1 (pt_not (pt_val (C8.pe_c AR hr (by decide) rfl (pa_cons (pv 2) (pa_cons (pe_callB call_len_seq (by rfl) T.len PySem.boot_len (pa_cons (pv 1) pa_nil)) pa_nil)))))))) (pss_one ps_never) pss_nil)
      (pss_cons (ps_fld (pv 0) (pe_lc (own := [("step", 3)]) (g := gName 3) rfl sc_init.nd (pi_list (pv 1))
          (blkOk_by (own := [("step", 3)]) (N := n_init) (sc := defScope m_init) (by decide +kernel))
          (fun _ _ _ _ _ => pg_name (i := 3) sc_init.nd rfl (.inl rfl)) (fun _ _ _ _ _ => pts_nil)
          (te := tCB (fun xs H Q => ∃ p ys, xs = [.ref p] ∧ (SqL K H p ys ∨ SqT K H p ys) ∧ ∀ l, H l = none → Q (.ref l) (upd H l (.lst ys))) (tCons (tVar 3) tNil))
          (fun _ _ _ _ _ => pe_callTy call_list_of (by rfl) T.list (by decide +kernel) (pa_cons (pv 3) pa_nil))) rfl)
      (pss_cons (ps_fld (pv 0) (pe_callTy call_list_of (by rfl) T.list (by decide +kernel) (pa_cons (pv 2) pa_nil)) rfl)
      (pss_cons (ps_fld (pv 0) (pe_callB call_len_seq (by rfl) T.len PySem.boot_len (pa_cons (pv 1) pa_nil)) rfl)
      (pss_one (ps_fld (pv 0) (pe_callB call_len_seq (by rfl) T.len PySem.boot_len (pa_cons (pe_ix ix_list (pv 1) pe_int (fun _ _ => rfl)) pa_nil)) rfl)))))), ?_⟩
    refine ⟨_, rfl, ls, S, k, rfl, hR, W, _, rfl, iteF ?_⟩
    refine ⟨_, rfl, _, rfl, ls, _, rfl, .inl (SqL.of h1), lr, R, ?_, elr, _, rfl, iteF ?_⟩
    · rw [List.length_map, h2, hRl]
      rfl
    -- self.steps = [list(step) for step in steps]
    refine ⟨_, rfl, ls, rfl, ⟨_, SqL.of h1⟩, fun D nD => ?_⟩
    have hrsl : rs.length ≤ 8 := by omega
    refine lc_list (K := K) (a := ls) (xs := rs.map V.ref) (fun i H' => ∃ as : List Addr, Same H H' ∧ as.length = i ∧ H' D = some (.lst (as.map V.ref)) ∧ ∀ (j : Nat) (row : List Nat), j < i → S[j]? = some row → ∃ a, as[j]? = some a ∧ H' a = some (.lst (row.map nV)))
      ⟨[], same_upd nD, rfl, upd_same, fun j row hj => absurd hj (Nat.not_lt_zero _)⟩ (fun i H' _ ⟨_, s', _⟩ => SqL.of (s' _ _ h1)) ?_ ?_
    · rintro i v H' hv ⟨as, s', hl, eD, hrows⟩
      have hi : i < S.length := by
        have := lt_len hv
        rw [List.length_map, h2] at this
        exact this
      obtain ⟨a, e1, e2⟩ := h3 i S[i] (List.getElem?_eq_getElem hi)
      rw [List.getElem?_map, e1] at hv
      have ev : V.ref a = v := Option.some.inj hv
      subst ev
      refine ⟨rfl, _, rfl, a, _, rfl, .inl (SqL.of (s' _ _ e2)), fun l nl => ?_⟩
      have nlD : D ≠ l := ne_of_none eD nl
      refine ⟨_, by rw [upd_ne nlD]; exact eD, ?_, as ++ [l], same_put (s'.trans (same_upd nl)) nD, ?_, ?_, fun j row hj hr' => ?_⟩
      · rw [List.length_map]
        exact small1000 (by omega)
      · rw [List.length_append, List.length_singleton, hl]
      · rw [upd_same, List.map_append]
        rfl
      · by_cases hji : j < i
        · obtain ⟨b, b1, b2⟩ := hrows j row hji hr'
          have hb : b ≠ D := fun e => by
            rw [e, eD] at b2
            have := HO.lst.inj (Option.some.inj b2)
            cases row with
            | nil =>
              have hl0 := W.row [] (List.mem_of_getElem? hr')
              have := W.k1
              simp at hl0
              omega
            | cons y ys =>
              cases as with
              | nil => cases this
              | cons z zs => cases (List.cons.inj this).1
          refine ⟨b, by rw [List.getElem?_append_left (lt_len b1)]; exact b1, ?_⟩
          rw [upd_ne hb, upd_ne (ne_of_none b2 nl)]
          exact b2
        · have e : j = i := by omega
          subst e
          rw [List.getElem?_eq_getElem hi] at hr'
          have er : S[j] = row := Option.some.inj hr'
          refine ⟨l, by rw [List.getElem?_append_right (by omega), hl, Nat.sub_self]; rfl, ?_⟩
          rw [upd_ne nlD.symm, upd_same, er]
    · rintro H' ⟨as, s', hl, eD, hrows⟩
      rw [List.length_map] at hl hrows
      have hD : Rows H' D S := ⟨as, eD, by omega, fun j row e => hrows j row (by have := lt_len e; omega) e⟩
      have ex1 := s' _ _ ex
      -- the fields
      refine ⟨_, rfl, x, C, dx, _, rfl, ex1, T.cl, T.nS, (by show 0 < 1000; decide), ?_⟩
      have hD1 : Rows (upd H' x (.ins C dx (putF "steps" (.ref D) []))) D S := rows_put hD ex1
      have elr1 : (upd H' x (.ins C dx (putF "steps" (.ref D) []))) lr = some (.lst (R.map nV)) := by
        rw [upd_ne (ne_of (s' _ _ elr) ex1 (by intro z; cases z))]
        exact s' _ _ elr
      have els1 : (upd H' x (.ins C dx (putF "steps" (.ref D) []))) ls = some (.lst (rs.map V.ref)) := by
        rw [upd_ne (ne_of (s' _ _ h1) ex1 (by intro z; cases z))]
        exact s' _ _ h1
      have hR1 : Rows (upd H' x (.ins C dx (putF "steps" (.ref D) []))) ls S := rows_put (hR.same s') ex1
      have ex2 : (upd H' x (.ins C dx (putF "steps" (.ref D) []))) x = some (.ins C dx (putF "steps" (.ref D) [])) := upd_same
      have sm1 : Same H0 (upd H' x (.ins C dx (putF "steps" (.ref D) []))) := same_put (s0.trans s') nx
      generalize upd H' x (.ins C dx (putF "steps" (.ref D) [])) = H1 at hD1 elr1 els1 hR1 ex2 sm1 ⊢
      refine ⟨_, rfl, lr, _, rfl, .inl (SqL.of elr1), fun l nl => ?_⟩
      have sl := same_upd (o := .lst (R.map nV)) nl
      refine ⟨_, rfl, x, C, dx, _, rfl, sl _ _ ex2, T.cl, T.nR, (by show 1 < 1000; decide), ?_⟩
      have nlx : l ≠ x := (ne_of_none ex2 nl).symm
      have ex3 := sl _ _ ex2
      have hD2 := rows_put (o := .ins C dx (putF "ranks" (.ref l) (putF "steps" (.ref D) []))) (hD1.same sl) ex3
      have hR2 := rows_put (o := .ins C dx (putF "ranks" (.ref l) (putF "steps" (.ref D) []))) (hR1.same sl) ex3
      have el2 : (upd (upd H1 l (.lst (R.map nV))) x (.ins C dx (putF "ranks" (.ref l) (putF "steps" (.ref D) [])))) l = some (.lst (R.map nV)) := by
        rw [upd_ne nlx, upd_same]
      have ex4 : (upd (upd H1 l (.lst (R.map nV))) x (.ins C dx (putF "ranks" (.ref l) (putF "steps" (.ref D) [])))) x = some (.ins C dx (putF "ranks" (.ref l) (putF "steps" (.ref D) []))) := upd_same
      have sm2 : Same H0 (upd (upd H1 l (.lst (R.map nV))) x (.ins C dx (putF "ranks" (.ref l) (putF "steps" (.ref D) [])))) := same_put (sm1.trans sl) nx
      generalize upd (upd H1 l (.lst (R.map nV))) x (.ins C dx (putF "ranks" (.ref l) (putF "steps" (.ref D) []))) = H2 at hD2 hR2 el2 ex4 sm2 ⊢
      obtain ⟨rs2, g1, g2, g3⟩ := id hR2
      refine ⟨_, rfl, ls, _, rfl, .inl (SqL.of g1), _, rfl, x, C, dx, _, rfl, ex4, T.cl, T.nM, (by show 2 < 1000; decide), ?_⟩
      have eN : ((rs2.map V.ref).length : Int) = (S.length : Int) := by rw [List.length_map, g2]
      rw [eN]
      have hD3 := rows_put (o := .ins C dx (putF "many" (.int (S.length : Int)) (putF "ranks" (.ref l) (putF "steps" (.ref D) [])))) hD2 ex4
      have hR3 := rows_put (o := .ins C dx (putF "many" (.int (S.length : Int)) (putF "ranks" (.ref l) (putF "steps" (.ref D) [])))) hR2 ex4
      have el3 : (upd H2 x (.ins C dx (putF "many" (.int (S.length : Int)) (putF "ranks" (.ref l) (putF "steps" (.ref D) []))))) l = some (.lst (R.map nV)) := by
        rw [upd_ne nlx]
        exact el2
      have ex5 : (upd H2 x (.ins C dx (putF "many" (.int (S.length : Int)) (putF "ranks" (.ref l) (putF "steps" (.ref D) []))))) x = some (.ins C dx (putF "many" (.int (S.length : Int)) (putF "ranks" (.ref l) (putF "steps" (.ref D) [])))) := upd_same
      have sm3 : Same H0 (upd H2 x (.ins C dx (putF "many" (.int (S.length : Int)) (putF "ranks" (.ref l) (putF "steps" (.ref D) []))))) := same_put sm2 nx
      generalize upd H2 x (.ins C dx (putF "many" (.int (S.length : Int)) (putF "ranks" (.ref l) (putF "steps" (.ref D) [])))) = H3 at hD3 hR3 el3 ex5 sm3 ⊢
      obtain ⟨rs3, c1, c2, c3⟩ := id hR3
      obtain ⟨a0, f1, f2⟩ := c3 0 S[0] (List.getElem?_eq_getElem (by omega))
      have l0 := W.row S[0] (List.getElem_mem _)
      refine ⟨_, rfl, ls, _, 0, .ref a0, rfl, rfl, SqL.of c1, atI_nat (j := 0) (by rw [List.getElem?_map, f1]; rfl), a0, _, rfl, .inl (SqL.of f2), _, rfl, x, C, dx, _, rfl, ex5, T.cl, T.nL, (by show 3 < 1000; decide), ?_⟩
      have eK : ((S[0].map nV).length : Int) = (k : Int) := by rw [List.length_map, l0]
      rw [eK]
      refine q _ (same_put sm3 nx) ⟨W, hRl, dx, D, l, ?_, rows_put hD3 ex5, ?_⟩
      · rw [upd_same]
        rfl
      · rw [upd_ne nlx]
        exact el3
end
end Lr

set_option Elab.async false
set_option linter.all false
set_option maxRecDepth 100000
set_option maxHeartbeats 4000000
namespace Lr
open PySem PySem.Spec PyProof.Rows L2
theorem emod_nat (z : Int) {n : Nat} (h : 0 < n) : ∃ y : Nat, y < n ∧ z % (n : Int) = (y : Int) := by
  have h1 := Int.emod_nonneg z (show (n : Int) ≠ 0 by omega)
  have h2 := Int.emod_lt_of_pos z (show (0 : Int) < n by omega)
  exact ⟨(z % (n : Int)).toNat, by omega, by omega⟩
theorem bit_dec (b r : Nat) : decide ((b / 2 ^ r) &&& 1 = 1) = b.testBit r := by
  rw [Nat.and_one_is_mod, ← Nat.testBit_zero, Nat.testBit_div_two_pow, Nat.zero_add]
/-! ### when a set is a loop, by who comes where -/
theorem loop_iff {S : Stp} {L : Nat} {rs : List Nat} (nd : rs.Nodup) (hrs : ∀ r, r ∈ rs ↔ L.testBit r = true) :
    Loop S L ↔ (∀ r ∈ rs, ∀ g ∈ rs, Rch S L r g) ∧ (1 < rs.length ∨ (rs.length = 1 ∧ ∃ r, rs[0]? = some r ∧ Edge S r r)) := by
  constructor
  · intro l
    refine ⟨fun r hr g hg => (l.all r g ((hrs r).mp hr) ((hrs g).mp hg)).rch, ?_⟩
    obtain ⟨r, hr⟩ := l.ne
    match rs, hrs with
    | [], hrs => exact nomatch (hrs r).mpr hr
    | [y], hrs =>
      have e : r = y := by simpa using (hrs r).mpr hr
      subst e
      obtain ⟨x, h1, h2, _⟩ := l.all r r hr hr
      have e : x = r := by simpa using (hrs x).mpr h2
      exact .inr ⟨rfl, r, rfl, e ▸ h1⟩
    | y :: z :: t, _ => exact .inl (by simp)
  · rintro ⟨h1, h2⟩
    have hne : ∃ r, r ∈ rs := by
      match rs, h2 with
      | [], h2 => simp at h2
      | y :: t, _ => exact ⟨y, List.mem_cons_self ..⟩
    have plus : ∀ r g, r ∈ rs → g ∈ rs → r ≠ g → Plus S L r g := fun r g hr hg hn => by
      rcases (h1 r hr g hg).cases' with e | p
      · exact absurd e hn
      · exact p
    refine ⟨hne.imp fun r hr => (hrs r).mp hr, fun r g hr hg => ?_⟩
    have hr' := (hrs r).mpr hr
    have hg' := (hrs g).mpr hg
    by_cases e : r = g
    · subst e
      rcases h2 with h2 | ⟨h2, y, hy, ey⟩
      · obtain ⟨y, hy, hn⟩ : ∃ y ∈ rs, y ≠ r := by
          match rs, nd, h2 with
          | a :: b :: t, nd, _ =>
            by_cases ha : a = r
            · refine ⟨b, by simp, fun hb => ?_⟩
              have := (List.nodup_cons.mp nd).1
              rw [ha, ← hb] at this
              exact this (List.mem_cons_self ..)
            · exact ⟨a, List.mem_cons_self .., ha⟩
        exact (plus r y hr' hy (fun z => hn z.symm)).trans (plus y r hy hr' hn)
      · match rs, h2 with
        | [a], _ =>
          have e1 : a = y := Option.some.inj hy
          have e2 : r = a := by simpa using hr'
          rw [e2]
          rw [← e1] at ey
          exact ⟨a, ey, e2 ▸ hr, .refl a⟩
    · exact plus r g hr' hg' e
section
variable {P : Program} {w : World} {K : PySem.W.Frag} {mg : Str → Option Value} {base : Heap} {C : Addr}
/-! ### the law's cells and draws -/
theorem sc_cell : FnScope ["_law_script", "_law_k"] ["_law_script", "_law_k"] (defScope s_law_cell) := ⟨rfl, rfl, rfl, by decide +kernel, rfl, by decide +kernel, by decide +kernel⟩
def spCel (K : PySem.W.Frag) : Sp := fun vs H Q _ => ∃ (a : Addr) (ns : List Int) (k : Nat), vs = [.ref a, nV k] ∧ SqL K H a (ns.map V.int) ∧ k ≤ 1000 ∧ ∀ (H' : Hp) (z : Int), Same H H' → Q (.int z) H'
theorem c_cell (T : Txt K mg C) (F : DefA K mg "_law_cell" s_law_cell ["_law_script", "_law_k"]) : Cal P w K mg base 1 "_law_cell" (spCel K) := by
  refine cal F sc_cell (fun vs H Q E h => ?_) (fun f cdv A' outer s H vs Q E hr h => ?_)
  · obtain ⟨a, ns, k, rfl, _⟩ := h
    rfl
  · obtain ⟨a, ns, k, rfl, hS, hk, q⟩ := h
    refine ⟨_, pss_cons (ps_if (pt_cmpR op_ltM (pv 1) (pe_callB call_len_seq (by rfl) T.len PySem.boot_len (pa_cons (pv 0) pa_nil)) (nomark _)) (pss_one (ps_ret (pe_ix ix_list (pv 0) (pv 1) (fun _ _ => rfl)))) pss_nil)
      (pss_cons (ps_if (pt_cmpR (op_eqLI hr.units) (pv 0) (pe_lst pa_nil) (nomark _)) (pss_one (ps_ret (pe_op op_mul pe_int (pv 1)))) pss_nil)
      (pss_one (ps_ret (pe_op op_add (pe_op op_fdivN (pe_ix ix_list (pv 0) (pe_op op_modM (pv 1) (pe_callB call_len_seq (by rfl) T.len PySem.boot_len (pa_cons (pv 0) pa_nil))) (fun _ _ => rfl)) (pe_op op_addM (pv 1) pe_int)) (pe_op op_mul pe_int (pv 1)))))), ?_⟩
    refine ⟨_, rfl, _, rfl, a, _, rfl, .inl hS, k, (ns.map V.int).length, rfl, rfl, _, rfl, ite2 (fun h => ?_) (fun h => ?_)⟩
    · have h : k < ns.length := by
        have := of_decide_eq_true h
        rwa [List.length_map] at this
      exact ⟨_, rfl, _, rfl, a, _, (k : Int), .int ns[k], rfl, rfl, hS, atI_nat (by rw [List.getElem?_map, List.getElem?_eq_getElem h]; rfl), q H _ (Same.refl H)⟩
    · refine ⟨_, rfl, Nat.zero_le _, fun p np => ?_⟩
      have sp := same_upd (o := .lst []) np
      refine ⟨a, p, ns, [], rfl, rfl, sp.seq hS, SqL.of upd_same, _, rfl, ite2 (fun h2 => ?_) (fun h2 => ?_)⟩
      · exact ⟨_, rfl, 7919, (k : Int), rfl, rfl, .inl ⟨by decide, by decide⟩, q _ _ sp⟩
      · have hne : ns ≠ [] := fun e => h2 (decide_eq_true e)
        have hl : 0 < ns.length := List.length_pos_iff.mpr hne
        have hm : k % ns.length < ns.length := Nat.mod_lt _ hl
        refine ⟨_, rfl, _, rfl, _, rfl, a, _, rfl, .inl (sp.seq hS), k, (ns.map V.int).length, rfl, rfl, by rw [List.length_map]; exact hl, ?_⟩
        rw [List.length_map]
        refine ⟨a, _, ((k % ns.length : Nat) : Int), .int ns[k % ns.length], rfl, rfl, sp.seq hS, atI_nat (by rw [List.getElem?_map, List.getElem?_eq_getElem hm]; rfl), ?_⟩
        refine ⟨_, rfl, k, 1, rfl, rfl, ns[k % ns.length], ((k + 1 : Nat) : Int), rfl, rfl, ⟨by omega, by omega⟩, ?_⟩
        exact ⟨_, rfl, 7919, (k : Int), rfl, rfl, .inl ⟨by decide, by decide⟩, _, _, rfl, rfl, q _ _ sp⟩
theorem sc_mix : FnScope ["_law_cell_here", "_law_k", "_law_many", "_law_number"] ["_law_cell_here", "_law_k", "_law_many"] (defScope s_law_mix) := ⟨rfl, rfl, rfl, by decide +kernel, rfl, by decide +kernel, by decide +kernel⟩
def spMix : Sp := fun vs H Q _ => ∃ (z : Int) (k n : Nat), vs = [.int z, nV k, nV n] ∧ 0 < n ∧ ∀ v : Nat, v < n → Q (nV v) H
theorem c_mix (F : DefA K mg "_law_mix" s_law_mix ["_law_cell_here", "_law_k", "_law_many"]) : Cal P w K mg base 1 "_law_mix" spMix := by
  refine cal F sc_mix (fun vs H Q E h => ?_) (fun f cdv A' outer s H vs Q E hr h => ?_)
  · obtain ⟨z, k, n, rfl, _⟩ := h
    rfl
  · obtain ⟨z, k, n, rfl, hn, q⟩ := h
    refine ⟨_, pss_cons (ps_set (i := 3) sc_mix.nd rfl (.inl rfl) (pe_op op_mod (pe_op op_mul (pe_op op_add (pe_op op_mod (pv 0) pe_int) (pe_op op_mul pe_int (pv 1))) pe_int) pe_int))
      (pss_cons (ps_set (i := 3) sc_mix.nd rfl (.inl rfl) (pe_op op_mod (pe_op op_mul (pe_op op_mod (pe_op op_mul (pv 3) (pv 3)) pe_int) pe_int) pe_int))
      (pss_one (ps_ret (pe_op op_mod (pe_op op_mod (pe_op op_mul (pv 3) (pv 3)) pe_int) (pv 2))))), ?_⟩
    refine ⟨_, rfl, z, 2147483647, rfl, rfl, (show (0 : Int) < 2147483647 by decide), _, rfl, 7919, (k : Int), rfl, rfl, .inl ⟨by decide, by decide⟩, _, _, rfl, rfl, _, 48271, rfl, rfl, .inr ⟨by decide, by decide⟩, _, 2147483629, rfl, rfl, (show (0 : Int) < 2147483629 by decide), ?_⟩
    obtain ⟨y, hy, e⟩ := emod_nat ((z % 2147483647 + 7919 * (k : Int)) * 48271) (n := 2147483629) (by decide)
    have e : (z % 2147483647 + 7919 * (k : Int)) * 48271 % 2147483629 = (y : Int) := e
    dsimp only
    rw [e]
    refine ⟨_, rfl, _, rfl, (y : Int), (y : Int), rfl, rfl, .inl ⟨by omega, by omega⟩, _, 2147483647, rfl, rfl, (show (0 : Int) < 2147483647 by decide), _, 69621, rfl, rfl, .inr ⟨by decide, by decide⟩, _, 2147483587, rfl, rfl, (show (0 : Int) < 2147483587 by decide), ?_⟩
    obtain ⟨x, hx, e⟩ := emod_nat ((y : Int) * (y : Int) % 2147483647 * 69621) (n := 2147483587) (by decide)
    have e : (y : Int) * (y : Int) % 2147483647 * 69621 % 2147483587 = (x : Int) := e
    dsimp only
    rw [e]
    refine ⟨_, rfl, _, rfl, (x : Int), (x : Int), rfl, rfl, .inl ⟨by omega, by omega⟩, _, 2147483629, rfl, rfl, (show (0 : Int) < 2147483629 by decide), _, rfl, _, (n : Int), rfl, rfl, by omega, ?_⟩
    obtain ⟨u, hu, e⟩ := emod_nat ((x : Int) * (x : Int) % 2147483629) hn
    dsimp only
    rw [e]
    exact q u hu
theorem sc_lwhole : FnScope ["_law_found"] ["_law_found"] (defScope s_law_whole) := ⟨rfl, rfl, rfl, by decide +kernel, rfl, by decide +kernel, by decide +kernel⟩
theorem c_lwhole (T : Txt K mg C) (F : DefA K mg "_law_whole" s_law_whole ["_law_found"]) : Cal P w K mg base 1 "_law_whole" spWhole := by
  refine cal F sc_lwhole (fun vs H Q E h => ?_) (fun f cdv A' outer s H vs Q E hr h => ?_)
  · obtain ⟨i, rfl, _⟩ := h
    rfl
  · obtain ⟨i, rfl, q⟩ := h
    refine ⟨_, pss_one (ps_ret (pe_and (pe_callB call_isi (by rfl) T.isi (by decide +kernel) (pa_cons (pv 0) (pa_cons (pe_bltn (by rfl) T.int (by decide +kernel) (v := .ty "int") rfl) pa_nil)))
      (pe_one (pe_not (pe_callB call_isi (by rfl) T.isi (by decide +kernel) (pa_cons (pv 0) (pa_cons (pe_bltn (by rfl) T.bool (by decide +kernel) (v := .ty "bool") rfl) pa_nil))))))), ?_⟩
    refine ⟨_, rfl, _, _, _, _, true, rfl, .ty "int", .base (.int _), kit_ty (by decide +kernel), _, rfl, iteT ?_⟩
    exact ⟨_, rfl, _, _, _, _, false, rfl, .ty "bool", .base (.int _), kit_ty (by decide +kernel), _, rfl, q⟩
/-! ### who comes where, loops, by the law -/
theorem sc_lahead : FnScope ["_law_steps", "_law_bits", "_law_room", "_law_found", "_law_at", "_law_goal"] ["_law_steps", "_law_bits", "_law_room"] (defScope s_law_ahead) := ⟨rfl, rfl, rfl, by decide +kernel, rfl, by decide +kernel, by decide +kernel⟩
def spAhead : Sp := fun vs H Q _ => ∃ (ls : Addr) (S : Stp) (k L r : Nat), vs = [.ref ls, nV L, nV r] ∧ Rows H ls S ∧ WF S k ∧ r < S.length ∧
  ∀ (H' : Hp) (p : Addr) (fs : List Nat), Same H H' → H' p = some (.lst (fs.map nV)) → fs.Nodup → (∀ g, g ∈ fs ↔ Rch S L r g) → Q (.ref p) H'
theorem c_lahead (T : Txt K mg C) (F : DefA K mg "_law_ahead" s_law_ahead ["_law_steps", "_law_bits", "_law_room"]) : Cal P w K mg base 1 "_law_ahead" spAhead := by
  refine cal F sc_lahead (fun vs H Q E h => ?_) (fun f cdv A' outer s H vs Q E hr h => ?_)
  · obtain ⟨ls, S, k, L, r, rfl, _⟩ := h
    rfl
  · obtain ⟨ls, S, k, L, r, rfl, hR, W, hrn, q⟩ := h
    have hn8 := W.n8
    refine ⟨_, pss_cons (ps_set (i := 3) sc_lahead.nd rfl (.inl rfl) (pe_lst (pa_cons (pv 2) pa_nil)))
      (pss_cons (ps_set (i := 4) sc_lahead.nd rfl (.inl rfl) pe_int)
      (pss_cons (ps_while PassesOwn.never (pt_cmpR op_ltM (pv 4) (pe_callB call_len_seq (by rfl) T.len PySem.boot_len (pa_cons (pv 3) pa_nil)) (nomark _))
        (pss_cons (ps_for PassesOwn.never rfl (pi_list (pe_ix ix_list (pv 0) (pe_ix ix_list (pv 3) (pv 4) (fun _ _ => rfl)) (fun _ _ => rfl))) (pg_name (i := 5) sc_lahead.nd rfl (.inl rfl))
          (pss_one (ps_if (PW.pt (pw_and (pt_cmpR op_eqM (pe_op op_andN (pe_op op_shrM (pv 1) (pv 5)) pe_int) pe_int (nomark _)) (pw_and1 (pt_cmpR op_ninN (pv 5) (pv 3) rfl))))
            (pss_one (ps_expr (pe_bm PySem.F.plainAttrs_list PySem.F.slot_list_append PySem.F.type_list_append mt_append (pv 3) (pa_cons (pv 5) pa_nil)))) pss_nil)))
        (pss_one (ps_set (i := 4) sc_lahead.nd rfl (.inl rfl) (pe_op op_addM (pv 4) pe_int)))))
      (pss_one (ps_ret (pv 3))))), ?_⟩
    refine ⟨_, rfl, by show 1 ≤ sizeLine; decide, fun o no => ?_⟩
    refine ⟨fun μ σ H' => ∃ (fs : List Nat) (at_ : Nat) (v5 : Option V), σ = [some (.ref ls), some (nV L), some (nV r), some (.ref o), some (nV at_), v5] ∧ μ = S.length - at_ ∧ at_ ≤ fs.length ∧ Same H H' ∧ H' o = some (.lst (fs.map nV)) ∧ fs.Nodup ∧ r ∈ fs ∧ (∀ g ∈ fs, Rch S L r g) ∧
        ∀ (j x : Nat), j < at_ → fs[j]? = some x → ∀ y, Edge S x y → L.testBit y = true → y ∈ fs,
      ⟨_, [r], 0, none, rfl, rfl, Nat.zero_le _, same_upd no, upd_same, by simp, by simp, fun g hg => by rw [List.mem_singleton.mp hg]; exact .refl r, fun j x hj => absurd hj (Nat.not_lt_zero _)⟩, ?_⟩
    rintro μ σ H' ⟨fs, at_, v5, rfl, rfl, hat, sm, eo, nd, hrf, hsd, clo⟩
    have hsz : ∀ {l : List Nat}, l.Nodup → (∀ g ∈ l, Rch S L r g) → l.length ≤ S.length := fun nd h => nodup_len nd fun x hx => (h x hx).lt W hrn
    have hsz0 := hsz nd hsd
    refine ⟨_, rfl, _, rfl, o, _, rfl, .inl (SqL.of eo), at_, _, rfl, rfl, _, rfl, ite2 (fun hl => ?_) (fun hl => ?_)⟩
    · have hl : at_ < fs.length := by
        have := of_decide_eq_true hl
        rwa [List.length_map] at this
      have hx : fs[at_]? = some fs[at_] := List.getElem?_eq_getElem hl
      generalize fs[at_] = x at hx
      have hxf := List.mem_of_getElem? hx
      have hxn : x < S.length := (hsd x hxf).lt W hrn
      obtain ⟨rsS, ra, row, r1, r2, r3, r4⟩ := hR.row (K := K) hxn
      refine ⟨fun σ' H'' => ∃ (fs' : List Nat) (v5 : Option V), σ' = [some (.ref ls), some (nV L), some (nV r), some (.ref o), some (nV (at_ + 1)), v5] ∧ at_ + 1 ≤ fs'.length ∧ Same H H'' ∧ H'' o = some (.lst (fs'.map nV)) ∧ fs'.Nodup ∧ r ∈ fs' ∧ (∀ g ∈ fs', Rch S L r g) ∧
          ∀ (j x : Nat), j < at_ + 1 → fs'[j]? = some x → ∀ y, Edge S x y → L.testBit y = true → y ∈ fs',
        fun σ' H'' ⟨fs', v5, e1, e2, e3, e4, e5, e6, e7, e8⟩ => ⟨S.length - (at_ + 1), by omega, fs', at_ + 1, v5, e1, rfl, e2, e3, e4, e5, e6, e7, e8⟩, ?_⟩
      refine ⟨_, rfl, _, rfl, _, rfl, o, _, (at_ : Int), nV x, rfl, rfl, SqL.of eo, atI_nat (get_nV hx), ls, _, (x : Int), .ref ra, rfl, rfl, sm.seq r1, r2, ra, rfl, ⟨_, SqL.of (sm _ _ r4)⟩, ?_⟩
      refine for_list (K := K) (a := ra) (xs := row.map nV) (fun i σ H'' => ∃ (more : List Nat) (v5 : Option V), σ = [some (.ref ls), some (nV L), some (nV r), some (.ref o), some (nV at_), v5] ∧ Same H H'' ∧ H'' o = some (.lst ((fs ++ more).map nV)) ∧ (fs ++ more).Nodup ∧ (∀ g ∈ fs ++ more, Rch S L r g) ∧
          ∀ y ∈ row.take i, L.testBit y = true → y ∈ fs ++ more)
        ⟨[], v5, rfl, sm, by rw [List.append_nil]; exact eo, by rw [List.append_nil]; exact nd, by rw [List.append_nil]; exact hsd, fun y hy => by simp at hy⟩ (fun i σ H'' _ ⟨_, _, _, s', _⟩ => SqL.of (s' _ _ r4)) ?_ ?_
      · rintro i v σ H'' hv ⟨more, v5, rfl, s', eo', nd', hsd', hrow⟩
        obtain ⟨y, hy, rfl⟩ := nV_get hv
        have hye : Edge S x y := ⟨row, r3, List.mem_of_getElem? hy⟩
        refine ⟨_, rfl, _, rfl, L, y, rfl, rfl, L / 2 ^ y, 1, rfl, rfl, (L / 2 ^ y) &&& 1, 1, rfl, rfl, _, rfl, ?_⟩
        rw [bit_dec]
        refine ite2 (fun hb => ?_) (fun hb => ?_)
        · refine ⟨_, rfl, _, rfl, y, o, fs ++ more, rfl, rfl, SqL.of eo', _, rfl, ite2 (fun hn => ?_) (fun hn => ?_)⟩
          · have hn : y ∉ fs ++ more := by simpa using hn
            refine ⟨.ref o, rfl, .inl ⟨rfl, _, SqL.of eo'⟩, _, rfl, o, _, _, rfl, rfl, eo', ?_, ?_⟩
            · have := hsz nd' hsd'
              rw [List.length_map]
              exact small1000 (by omega)
            · refine ⟨more ++ [y], _, rfl, same_put s' no, ?_, ?_, fun g hg => ?_, fun z hz hzL => ?_⟩
              · rw [upd_same, ← List.append_assoc, List.map_append (l₁ := fs ++ more)]
                rfl
              · rw [← List.append_assoc]
                exact nodup_snoc nd' hn
              · rw [← List.append_assoc] at hg
                rcases List.mem_append.mp hg with hg | hg
                · exact hsd' g hg
                · rw [List.mem_singleton.mp hg]
                  exact .snoc (hsd x hxf) hye hb
              · rw [← List.append_assoc]
                rcases (take_step hy z).mp hz with h | rfl
                · exact List.mem_append_left _ (hrow z h hzL)
                · exact List.mem_append_right _ (by simp)
          · have hn : y ∈ fs ++ more := Classical.byContradiction fun z => hn (by rw [decide_eq_false z]; rfl)
            refine ⟨more, _, rfl, s', eo', nd', hsd', fun z hz hzL => ?_⟩
            rcases (take_step hy z).mp hz with h | rfl
            · exact hrow z h hzL
            · exact hn
        · refine iteF ⟨more, _, rfl, s', eo', nd', hsd', fun z hz hzL => ?_⟩
          rcases (take_step hy z).mp hz with h | rfl
          · exact hrow z h hzL
          · exact absurd hzL hb
      · rintro σ H'' ⟨more, v5, rfl, s', eo', nd', hsd', hrow⟩
        rw [List.length_map, List.take_length] at hrow
        refine ⟨_, rfl, at_, 1, rfl, rfl, fs ++ more, _, rfl, ?_, s', eo', nd', List.mem_append_left _ hrf, hsd', fun j z hj hz y he hyL => ?_⟩
        · rw [List.length_append]
          omega
        · by_cases hja : j < at_
          · rw [List.getElem?_append_left (by omega)] at hz
            exact List.mem_append_left _ (clo j z hja hz y he hyL)
          · have e : j = at_ := by omega
            subst e
            rw [List.getElem?_append_left hl, hx] at hz
            have e2 : x = z := Option.some.inj hz
            subst e2
            obtain ⟨row', f1, f2⟩ := he
            rw [r3] at f1
            cases f1
            exact hrow y f2 hyL
    · have hge : at_ = fs.length := by
        have h1 : ¬ at_ < fs.length := fun z => hl (decide_eq_true (by rw [List.length_map]; exact z))
        omega
      subst hge
      refine ⟨_, rfl, q H' o fs sm eo nd fun g => ⟨hsd g, fun h => ?_⟩⟩
      induction h with
      | refl => exact hrf
      | snoc _ e a ih =>
        obtain ⟨j, hj⟩ := List.mem_iff_getElem?.mp (ih)
        exact clo j _ (lt_len hj) hj _ e a
end
end Lr

set_option Elab.async false
set_option linter.all false
set_option maxRecDepth 100000
set_option maxHeartbeats 4000000
namespace Lr
open PySem PySem.Spec PyProof.Rows L2
theorem range_mem {i : Nat} (P : Nat → Prop) (z : Nat) : (z < i + 1 ∧ P z) ↔ (z < i ∧ P z) ∨ (z = i ∧ P i) := by
  constructor
  · rintro ⟨h, p⟩
    by_cases e : z = i
    · exact .inr ⟨e, e ▸ p⟩
    · exact .inl ⟨by omega, p⟩
  · rintro (⟨h, p⟩ | ⟨rfl, p⟩)
    · exact ⟨by omega, p⟩
    · exact ⟨by omega, p⟩
section
variable {P : Program} {w : World} {K : PySem.W.Frag} {mg : Str → Option Value} {base : Heap} {C : Addr}
abbrev n_lisloop : List Str := ["_law_steps", "_law_bits", "_law_room", "_law_rooms"]
theorem sc_lisloop : FnScope n_lisloop ["_law_steps", "_law_bits"] (defScope s_law_is_loop) := ⟨rfl, rfl, rfl, by decide +kernel, rfl, by decide +kernel, by decide +kernel⟩
def spLisLoop : Sp := fun vs H Q _ => ∃ (ls : Addr) (S : Stp) (k L : Nat), vs = [.ref ls, nV L] ∧ Rows H ls S ∧ WF S k ∧ L < 2 ^ S.length ∧ ∀ (H' : Hp) (b : Bool), Same H H' → (b = true ↔ Loop S L) → Q (.bl b) H'
theorem c_lisloop (T : Txt K mg C) (F : DefA K mg "_law_is_loop" s_law_is_loop ["_law_steps", "_law_bits"]) (LA : Cal P w K mg base 1 "_law_ahead" spAhead) : Cal P w K mg base 2 "_law_is_loop" spLisLoop := by
  refine cal F sc_lisloop (fun vs H Q E h => ?_) (fun f cdv A' outer s H vs Q E hr h => ?_)
  · obtain ⟨ls, S, k, L, rfl, _⟩ := h
    rfl
  · obtain ⟨ls, S, k, L, rfl, hR, W, hL, q⟩ := h
    obtain ⟨rsA, h1, h2, h3⟩ := id hR
    have hn8 := W.n8
    refine ⟨_, pss_cons (ps_setLc (i := 3) (own := [("_law_room", 2)]) (g := gName 2) rfl sc_lisloop.nd rfl rfl (sw_true rfl rfl rfl (by decide +kernel)) (pi_range1 rfl T.range (pa_cons (pe_callB call_len_seq (by rfl) T.len PySem.boot_len (pa_cons (pv 0) pa_nil)) pa_nil))
        (blkOk_by (own := [("_law_room", 2)]) (N := n_lisloop) (sc := defScope s_law_is_loop) (by decide +kernel))
        (fun _ _ _ _ _ => pg_name (i := 2) sc_lisloop.nd rfl (.inl rfl))
        (fun _ _ _ _ _ => pts_one (pt_cmpR op_eqM (pe_op op_andN (pe_op op_shrM (pv 1) (pv 2)) pe_int) pe_int (nomark _)))
        (fun _ _ _ _ _ => pv 2))
      (pss_cons (ps_for PassesOwn.never rfl (pi_list (pv 3)) (pg_name (i := 2) sc_lisloop.nd rfl (.inl rfl))
        (pss_one (ps_if (pt_cmpR op_neM (pe_callB call_len_seq (by rfl) T.len PySem.boot_len (pa_cons (C8.pe_c LA hr (by decide) rfl (pa_cons (pv 0) (pa_cons (pv 1) (pa_cons (pv 2) pa_nil)))) pa_nil)) (pe_callB call_len_seq (by rfl) T.len PySem.boot_len (pa_cons (pv 3) pa_nil)) (nomark _)) (pss_one (ps_ret pe_bl)) pss_nil)))
      (pss_one (ps_ret (pe_or (pe_cmpR op_gtM (pe_callB call_len_seq (by rfl) T.len PySem.boot_len (pa_cons (pv 3) pa_nil)) pe_int (nomark _))
        (pe_one (pe_and (pe_cmpR op_eqM (pe_callB call_len_seq (by rfl) T.len PySem.boot_len (pa_cons (pv 3) pa_nil)) pe_int (nomark _))
          (pe_one (pe_cmpR op_inN (pe_ix ix_list (pv 3) pe_int (fun _ _ => rfl)) (pe_ix ix_list (pv 0) (pe_ix ix_list (pv 3) pe_int (fun _ _ => rfl)) (fun _ _ => rfl)) rfl)))))))), ?_⟩
    refine ⟨_, rfl, ls, _, rfl, .inl (SqL.of h1), ((rsA.map V.ref).length : Int), rfl, by rw [List.length_map]; omega, by rw [List.length_map]; omega, fun D nD => ?_⟩
    rw [List.length_map, h2, Int.toNat_natCast]
    refine lc_range (lo := 0) (n := S.length) (fun i H' => ∃ rs : List Nat, Same H H' ∧ H' D = some (.lst (rs.map nV)) ∧ rs.length ≤ i ∧ rs.Pairwise (· < ·) ∧ ∀ g, g ∈ rs ↔ g < i ∧ L.testBit g = true)
      ⟨[], same_upd nD, upd_same, Nat.le_refl _, List.Pairwise.nil, fun g => by simp⟩ ?_ ?_
    · rintro i H' hi ⟨rs, s', eD, hl, pw, hm⟩
      have ei : (0 : Int) + (i : Int) = ((i : Nat) : Int) := by omega
      rw [ei]
      refine ⟨rfl, _, rfl, _, rfl, L, i, rfl, rfl, L / 2 ^ i, 1, rfl, rfl, (L / 2 ^ i) &&& 1, 1, rfl, rfl, _, rfl, ?_⟩
      rw [bit_dec]
      refine ite2 (fun hb => ?_) (fun hb => ?_)
      · refine ⟨_, rfl, _, eD, ?_, rs ++ [i], same_put s' nD, ?_, ?_, ?_, fun g => ?_⟩
        · rw [List.length_map]
          exact small1000 (by omega)
        · rw [upd_same, List.map_append]
          rfl
        · rw [List.length_append, List.length_singleton]
          omega
        · refine List.pairwise_append.mpr ⟨pw, by simp, fun x hx y hy => ?_⟩
          rw [List.mem_singleton.mp hy]
          exact ((hm x).mp hx).1
        · rw [List.mem_append, hm, List.mem_singleton, range_mem (fun g => L.testBit g = true)]
          constructor
          · rintro (h | rfl)
            · exact .inl h
            · exact .inr ⟨rfl, hb⟩
          · rintro (h | ⟨h, _⟩)
            · exact .inl h
            · exact .inr h
      · refine ⟨rs, s', eD, by omega, pw, fun g => ?_⟩
        rw [hm, range_mem (fun g => L.testBit g = true)]
        constructor
        · exact .inl
        · rintro (h | ⟨_, h⟩)
          · exact h
          · exact absurd h hb
    · rintro H' ⟨rs, s', eD, hl, pw, hm⟩
      have nd := pw_nodup pw
      have hrs : ∀ g, g ∈ rs ↔ L.testBit g = true := fun g => by
        rw [hm]
        exact ⟨fun z => z.2, fun z => ⟨bit_lt hL z, z⟩⟩
      refine ⟨_, rfl, D, rfl, ⟨_, SqL.of eD⟩, for_list (K := K) (a := D) (xs := rs.map nV) (fun i σ H'' => ∃ v2 : Option V, σ = [some (.ref ls), some (nV L), v2, some (.ref D)] ∧ Same H H'' ∧ H'' D = some (.lst (rs.map nV)) ∧ ∀ r ∈ rs.take i, ∀ g ∈ rs, Rch S L r g)
        ⟨none, rfl, s', eD, fun r hr => by simp at hr⟩ (fun i σ H'' _ ⟨_, _, _, e, _⟩ => SqL.of e) ?_ ?_⟩
      · rintro i v σ H'' hv ⟨v2, rfl, s2, eD2, hall⟩
        obtain ⟨r, hri, rfl⟩ := nV_get hv
        have hrL := (hrs r).mp (List.mem_of_getElem? hri)
        refine ⟨_, rfl, _, rfl, _, rfl, ls, S, k, L, r, rfl, hR.same s2, W, bit_lt hL hrL, fun H3 p fs s3 ep ndf hfs => ?_⟩
        refine ⟨p, _, rfl, .inl (SqL.of ep), _, rfl, D, _, rfl, .inl (SqL.of (s3 _ _ eD2)), (fs.map nV).length, (rs.map nV).length, rfl, rfl, _, rfl, ?_⟩
        have fsub : ∀ g ∈ fs, g ∈ rs := fun g hg => by
          rcases ((hfs g).mp hg).tgt with e | e
          · exact e ▸ List.mem_of_getElem? hri
          · exact (hrs g).mpr e
        rw [List.length_map, List.length_map]
        by_cases he : fs.length = rs.length
        · rw [decide_eq_true he]
          refine iteF ⟨_, rfl, s2.trans s3, s3 _ _ eD2, fun x hx g hg => ?_⟩
          rcases (take_step hri x).mp hx with h | rfl
          · exact hall x h g hg
          · exact (hfs g).mp (nodup_all ndf fsub (Nat.le_of_eq he.symm) g hg)
        · rw [decide_eq_false he]
          refine iteT (q H3 false (s2.trans s3) ⟨fun z => (nomatch z), fun l => absurd ?_ he⟩)
          refine Nat.le_antisymm (nodup_sub ndf fsub) (nodup_sub nd fun g hg => ?_)
          exact (hfs g).mpr (l.all r g hrL ((hrs g).mp hg)).rch
      · rintro σ H'' ⟨v2, rfl, s2, eD2, hall⟩
        rw [List.length_map, List.take_length] at hall
        have key := loop_iff (S := S) nd hrs
        refine ⟨_, rfl, D, _, rfl, .inl (SqL.of eD2), (rs.map nV).length, 1, rfl, rfl, _, rfl, ?_⟩
        rw [List.length_map]
        refine ite2 (fun h => ?_) (fun h => ?_)
        · exact q H'' true s2 ⟨fun _ => key.mpr ⟨hall, .inl (of_decide_eq_true h)⟩, fun _ => rfl⟩
        · have h : ¬ 1 < rs.length := fun z => h (decide_eq_true z)
          refine ⟨_, rfl, D, _, rfl, .inl (SqL.of eD2), (rs.map nV).length, 1, rfl, rfl, _, rfl, ?_⟩
          rw [List.length_map]
          refine ite2 (fun h' => ?_) (fun h' => ?_)
          · have h' : rs.length = 1 := of_decide_eq_true h'
            obtain ⟨r, hr0⟩ : ∃ r, rs[0]? = some r := ⟨_, List.getElem?_eq_getElem (by omega)⟩
            have hrn : r < S.length := bit_lt hL ((hrs r).mp (List.mem_of_getElem? hr0))
            obtain ⟨rsS, ra, row, r1, r2, r3, r4⟩ := hR.row (K := K) hrn
            have a0 : atI (rs.map nV) ((0 : Nat) : Int) = some (nV r) := atI_nat (get_nV hr0)
            refine ⟨_, rfl, D, _, 0, _, rfl, rfl, SqL.of eD2, a0, _, rfl, _, rfl, D, _, 0, _, rfl, rfl, SqL.of eD2, a0, ls, _, (r : Int), _, rfl, rfl, s2.seq r1, r2, r, ra, row, rfl, rfl, SqL.of (s2 _ _ r4), ?_⟩
            refine q H'' _ s2 ?_
            rw [key, decide_eq_true_iff]
            constructor
            · exact fun hin => ⟨hall, .inr ⟨h', r, hr0, row, r3, hin⟩⟩
            · rintro ⟨_, z | ⟨_, r', e1, e2⟩⟩
              · exact absurd z h
              · rw [hr0] at e1
                cases e1
                obtain ⟨row', f1, f2⟩ := e2
                rw [r3] at f1
                cases f1
                exact f2
          · have h' : ¬ rs.length = 1 := fun z => h' (decide_eq_true z)
            refine q H'' false s2 ⟨fun z => (nomatch z), fun l => ?_⟩
            rcases (key.mp l).2 with z | ⟨z, _⟩
            · exact absurd z h
            · exact absurd z h'
abbrev n_lloops : List Str := ["_law_steps", "_law_bits"]
theorem sc_lloops : FnScope n_lloops ["_law_steps"] (defScope s_law_loops) := ⟨rfl, rfl, rfl, by decide +kernel, rfl, by decide +kernel, by decide +kernel⟩
def spLloops : Sp := fun vs H Q _ => ∃ (ls : Addr) (S : Stp) (k : Nat), vs = [.ref ls] ∧ Rows H ls S ∧ WF S k ∧ ∀ (H' : Hp) (p : Addr) (ps : List Nat), Same H H' → H' p = some (.lst (ps.map nV)) → ps.length ≤ 255 → (∀ L, L ∈ ps ↔ Loop S L) → Q (.ref p) H'
theorem c_lloops (T : Txt K mg C) (F : DefA K mg "_law_loops" s_law_loops ["_law_steps"]) (IL : Cal P w K mg base 2 "_law_is_loop" spLisLoop) : Cal P w K mg base 3 "_law_loops" spLloops := by
  refine cal F sc_lloops (fun vs H Q E h => ?_) (fun f cdv A' outer s H vs Q E hr h => ?_)
  · obtain ⟨ls, S, k, rfl, _⟩ := h
    rfl
  · obtain ⟨ls, S, k, rfl, hR, W, q⟩ := h
    obtain ⟨rsA, h1, h2, h3⟩ := id hR
    have hn8 := W.n8
    have pw8 : 2 ^ S.length ≤ 2 ^ 8 := Nat.pow_le_pow_right (by decide) hn8
    have pw1 : 1 ≤ 2 ^ S.length := Nat.one_le_two_pow
    refine ⟨_, pss_one (ps_ret (pe_lc (own := [("_law_bits", 1)]) (g := gName 1) rfl sc_lloops.nd (pi_range2 rfl T.range (pa_cons pe_int (pa_cons (pe_op op_oneN pe_int (pe_callB call_len_seq (by rfl) T.len PySem.boot_len (pa_cons (pv 0) pa_nil))) pa_nil)))
        (blkOk_by (own := [("_law_bits", 1)]) (N := n_lloops) (sc := defScope s_law_loops) (by decide +kernel))
        (fun _ _ _ _ _ => pg_name (i := 1) sc_lloops.nd rfl (.inl rfl))
        (fun _ _ _ _ _ => pts_one (pt_val (C8.pe_c IL hr (by decide) rfl (pa_cons (pv 0) (pa_cons (pv 1) pa_nil)))))
        (fun _ _ _ _ _ => pv 1))), ?_⟩
    refine ⟨_, rfl, ls, _, rfl, .inl (SqL.of h1), (rsA.map V.ref).length, rfl, rfl, by rw [List.length_map]; omega, 1, ((2 ^ (rsA.map V.ref).length : Nat) : Int), rfl, ?_, fun D nD => ?_⟩
    · rw [List.length_map, h2]
      omega
    · rw [List.length_map, h2]
      have en : (((2 ^ S.length : Nat) : Int) - 1).toNat = 2 ^ S.length - 1 := by omega
      rw [en]
      refine lc_range (lo := 1) (n := 2 ^ S.length - 1) (fun i H' => ∃ ps : List Nat, Same H H' ∧ H' D = some (.lst (ps.map nV)) ∧ ps.length ≤ i ∧ ∀ L, L ∈ ps ↔ 1 ≤ L ∧ L < i + 1 ∧ Loop S L)
        ⟨[], same_upd nD, upd_same, Nat.le_refl _, fun L => ⟨fun z => (nomatch z), fun z => by omega⟩⟩ ?_ ?_
      · rintro i H' hi ⟨ps, s', eD, hl, hm⟩
        have ei : (1 : Int) + (i : Int) = ((i + 1 : Nat) : Int) := by omega
        rw [ei]
        refine ⟨rfl, _, rfl, _, rfl, ls, S, k, i + 1, rfl, hR.same s', W, by omega, fun H2 b s2 hb => ?_⟩
        have key : ∀ L, (1 ≤ L ∧ L < i + 1 + 1 ∧ Loop S L) ↔ (1 ≤ L ∧ L < i + 1 ∧ Loop S L) ∨ (L = i + 1 ∧ Loop S (i + 1)) := fun L => by
          constructor
          · rintro ⟨a, b, c⟩
            by_cases e : L = i + 1
            · exact .inr ⟨e, e ▸ c⟩
            · exact .inl ⟨a, by omega, c⟩
          · rintro (⟨a, b, c⟩ | ⟨rfl, c⟩)
            · exact ⟨a, by omega, c⟩
            · exact ⟨by omega, by omega, c⟩
        refine ⟨_, rfl, ?_⟩
        cases b with
        | true =>
          refine iteT ⟨_, rfl, _, s2 _ _ eD, ?_, ps ++ [i + 1], same_put (s'.trans s2) nD, ?_, ?_, fun L => ?_⟩
          · rw [List.length_map]
            exact small1000 (by omega)
          · rw [upd_same, List.map_append]
            rfl
          · rw [List.length_append, List.length_singleton]
            omega
          · rw [List.mem_append, hm, key, List.mem_singleton]
            constructor
            · rintro (h | h)
              · exact .inl h
              · exact .inr ⟨h, hb.mp rfl⟩
            · rintro (h | ⟨h, _⟩)
              · exact .inl h
              · exact .inr h
        | false =>
          refine iteF ⟨ps, s'.trans s2, s2 _ _ eD, by omega, fun L => ?_⟩
          rw [hm, key]
          constructor
          · exact .inl
          · rintro (h | ⟨_, h⟩)
            · exact h
            · exact nomatch hb.mpr h
      · rintro H' ⟨ps, s', eD, hl, hm⟩
        refine q H' D ps s' eD (by omega) fun L => ?_
        rw [hm]
        constructor
        · exact fun z => z.2.2
        · intro l
          have := l.bd W
          refine ⟨?_, by omega, l⟩
          obtain ⟨r, hr'⟩ := l.ne
          by_cases e : L = 0
          · rw [e, Nat.zero_testBit] at hr'
            cases hr'
          · omega
abbrev n_ltop : List Str := ["_law_ranks", "_law_bits", "_law_room"]
theorem sc_ltop : FnScope n_ltop ["_law_ranks", "_law_bits"] (defScope s_law_top) := ⟨rfl, rfl, rfl, by decide +kernel, rfl, by decide +kernel, by decide +kernel⟩
def spLtop : Sp := fun vs H Q _ => ∃ (lr : Addr) (R : List Nat) (L : Nat), vs = [.ref lr, nV L] ∧ H lr = some (.lst (R.map nV)) ∧ R.length ≤ 8 ∧ L < 2 ^ R.length ∧ (∃ r, L.testBit r = true) ∧ ∀ (H' : Hp) (t : Nat), Same H H' → Top R L t → Q (nV t) H'
theorem c_ltop (T : Txt K mg C) (F : DefA K mg "_law_top" s_law_top ["_law_ranks", "_law_bits"]) : Cal P w K mg base 1 "_law_top" spLtop := by
  refine cal F sc_ltop (fun vs H Q E h => ?_) (fun f cdv A' outer s H vs Q E hr h => ?_)
  · obtain ⟨lr, R, L, rfl, _⟩ := h
    rfl
  · obtain ⟨lr, R, L, rfl, el, hR8, hL, ⟨r0, hr0⟩, q⟩ := h
    refine ⟨_, pss_one (ps_ret (pe_callB (cr_max rfl) (by rfl) T.max (by decide +kernel) (pa_cons
        (pe_lc (own := [("_law_room", 2)]) (g := gName 2) (te := tOp (rIxL K) (tVar 0) (tVar 2)) rfl sc_ltop.nd (pi_range1 rfl T.range (pa_cons (pe_callB call_len_seq (by rfl) T.len PySem.boot_len (pa_cons (pv 0) pa_nil)) pa_nil))
          (blkOk_by (own := [("_law_room", 2)]) (N := n_ltop) (sc := defScope s_law_top) (by decide +kernel))
          (fun _ _ _ _ _ => pg_name (i := 2) sc_ltop.nd rfl (.inl rfl))
          (fun _ _ _ _ _ => pts_one (pt_cmpR op_eqM (pe_op op_andN (pe_op op_shrM (pv 1) (pv 2)) pe_int) pe_int (nomark _)))
          (fun _ _ _ _ _ => pe_ix ix_list (pv 0) (pv 2) (fun _ _ => rfl))) pa_nil))), ?_⟩
    refine ⟨_, rfl, lr, _, rfl, .inl (SqL.of el), ((R.map nV).length : Int), rfl, by rw [List.length_map]; omega, by rw [List.length_map]; omega, fun D nD => ?_⟩
    rw [List.length_map, Int.toNat_natCast]
    refine lc_range (lo := 0) (n := R.length) (fun i H' => ∃ rs : List Nat, Same H H' ∧ H' D = some (.lst ((rs.map (rk R)).map nV)) ∧ rs.length ≤ i ∧ ∀ g, g ∈ rs ↔ g < i ∧ L.testBit g = true)
      ⟨[], same_upd nD, upd_same, Nat.le_refl _, fun g => by simp⟩ ?_ ?_
    · rintro i H' hi ⟨rs, s', eD, hl, hm⟩
      have ei : (0 : Int) + (i : Int) = ((i : Nat) : Int) := by omega
      rw [ei]
      refine ⟨rfl, _, rfl, _, rfl, L, i, rfl, rfl, L / 2 ^ i, 1, rfl, rfl, (L / 2 ^ i) &&& 1, 1, rfl, rfl, _, rfl, ?_⟩
      rw [bit_dec]
      refine ite2 (fun hb => ?_) (fun hb => ?_)
      · refine ⟨_, rfl, _, rfl, lr, _, (i : Int), _, rfl, rfl, SqL.of (s' _ _ el), rk_atI hi, _, eD, ?_, rs ++ [i], same_put s' nD, ?_, ?_, fun g => ?_⟩
        · rw [List.length_map, List.length_map]
          exact small1000 (by omega)
        · rw [upd_same, List.map_append, List.map_append]
          rfl
        · rw [List.length_append, List.length_singleton]
          omega
        · rw [List.mem_append, hm, List.mem_singleton, range_mem (fun g => L.testBit g = true)]
          constructor
          · rintro (h | rfl)
            · exact .inl h
            · exact .inr ⟨rfl, hb⟩
          · rintro (h | ⟨h, _⟩)
            · exact .inl h
            · exact .inr h
      · refine ⟨rs, s', eD, by omega, fun g => ?_⟩
        rw [hm, range_mem (fun g => L.testBit g = true)]
        constructor
        · exact .inl
        · rintro (h | ⟨_, h⟩)
          · exact h
          · exact absurd h hb
    · rintro H' ⟨rs, s', eD, hl, hm⟩
      have hrs : ∀ g, g ∈ rs ↔ L.testBit g = true := fun g => by
        rw [hm]
        exact ⟨fun z => z.2, fun z => ⟨bit_lt hL z, z⟩⟩
      refine ⟨D, ((rs.map (rk R)).map fun x : Nat => (x : Int)), rfl, SqL.of (by rw [eD, map_nV]), ?_, fun t ht hle => ?_⟩
      · rw [List.length_map, List.length_map]
        exact List.length_pos_of_mem ((hrs r0).mpr hr0)
      · obtain ⟨t', ht', rfl⟩ := List.mem_map.mp ht
        refine q H' t' s' (top_of hrs rfl (fun x hx => ((hm x).mp hx).1) ht' fun x hx => ?_)
        have := hle x (List.mem_map.mpr ⟨x, hx, rfl⟩)
        omega
end
end Lr

set_option Elab.async false
set_option linter.all false
set_option maxRecDepth 100000
set_option maxHeartbeats 4000000
namespace Lr
open PySem PySem.Spec PyProof.Rows L2
theorem emod_ex (z : Int) {m : Int} (h : 0 < m) : ∃ y : Nat, z % m = (y : Int) := by
  have h1 := Int.emod_nonneg z (show m ≠ 0 by omega)
  exact ⟨(z % m).toNat, by omega⟩
theorem pick4 (a b c d : V) {v : Nat} (h : v < 4) : ∃ x, atI [a, b, c, d] (v : Int) = some x ∧ (x = a ∨ x = b ∨ x = c ∨ x = d) := by
  match v, h with
  | 0, _ => exact ⟨a, atI_nat (j := 0) rfl, .inl rfl⟩
  | 1, _ => exact ⟨b, atI_nat (j := 1) rfl, .inr (.inl rfl)⟩
  | 2, _ => exact ⟨c, atI_nat (j := 2) rfl, .inr (.inr (.inl rfl))⟩
  | 3, _ => exact ⟨d, atI_nat (j := 3) rfl, .inr (.inr (.inr rfl))⟩
theorem pick3 (a b c : V) {v : Nat} (h : v < 3) : ∃ x, atI [a, b, c] (v : Int) = some x ∧ (x = a ∨ x = b ∨ x = c) := by
  match v, h with
  | 0, _ => exact ⟨a, atI_nat (j := 0) rfl, .inl rfl⟩
  | 1, _ => exact ⟨b, atI_nat (j := 1) rfl, .inr (.inl rfl)⟩
  | 2, _ => exact ⟨c, atI_nat (j := 2) rfl, .inr (.inr rfl)⟩
section
variable {X : Cx}
/-- xs[i] of a list that H holds -/
abbrev rIxH : R2 := fun x y H Q => ∃ (p : Addr) (xs : List V) (i : Int) (v : V), x = .ref p ∧ y = .int i ∧ H p = some (.lst xs) ∧ atI xs i = some v ∧ Q v H
theorem ix_listH : IxR X rIxH := by
  intro value slice pins s σ H x y v u Q I rx ry h hs
  obtain ⟨p, xs, i, z, rfl, rfl, hp, he, q⟩ := h
  exact ix_list value slice pins s σ H _ _ v u Q I rx ry ⟨p, xs, i, z, rfl, rfl, SqL.of hp, he, q⟩ hs
end
/-- what has been made of a machine: so many rows, so many ranks -/
structure Part (H : Hp) (ls lr : Addr) (S : Stp) (R : List Nat) (as : List Addr) : Prop where
  el : H ls = some (.lst (as.map V.ref))
  len : as.length = S.length
  rows : ∀ (j : Nat) (row : List Nat), S[j]? = some row → ∃ a, as[j]? = some a ∧ H a = some (.lst (row.map nV))
  er : H lr = some (.lst (R.map nV))
  ne : ∀ a ∈ as, a ≠ ls ∧ a ≠ lr
theorem Part.same {H H' : Hp} {ls lr : Addr} {S : Stp} {R : List Nat} {as : List Addr} (p : Part H ls lr S R as) (s : Same H H') : Part H' ls lr S R as :=
  ⟨s _ _ p.el, p.len, fun j row e => by
    obtain ⟨a, e1, e2⟩ := p.rows j row e
    exact ⟨a, e1, s _ _ e2⟩, s _ _ p.er, p.ne⟩
theorem Part.rowsOf {H : Hp} {ls lr : Addr} {S : Stp} {R : List Nat} {as : List Addr} (p : Part H ls lr S R as) : Rows H ls S := ⟨as, p.el, p.len, p.rows⟩
theorem Part.more {H : Hp} {ls lr D : Addr} {S : Stp} {R : List Nat} {as : List Addr} {row : List Nat} {x : Nat} (p : Part H ls lr S R as) (hlr : ls ≠ lr) (eD : H D = some (.lst (row.map nV))) (h1 : D ≠ ls) (h2 : D ≠ lr) :
    Part (upd (upd H ls (.lst (as.map V.ref ++ [V.ref D]))) lr (.lst (R.map nV ++ [nV x]))) ls lr (S ++ [row]) (R ++ [x]) (as ++ [D]) := by
  have far : ∀ a, a ≠ ls → a ≠ lr → (upd (upd H ls (.lst (as.map V.ref ++ [V.ref D]))) lr (.lst (R.map nV ++ [nV x]))) a = H a := fun a h1 h2 => by rw [upd_ne h2, upd_ne h1]
  refine ⟨?_, ?_, fun j rw' e => ?_, ?_, fun a ha => ?_⟩
  · rw [upd_ne hlr, upd_same, List.map_append]
    rfl
  · rw [List.length_append, List.length_append, p.len]
    rfl
  · by_cases hj : j < S.length
    · rw [List.getElem?_append_left hj] at e
      obtain ⟨a, e1, e2⟩ := p.rows j rw' e
      obtain ⟨n1, n2⟩ := p.ne a (List.mem_of_getElem? e1)
      refine ⟨a, by rw [List.getElem?_append_left (lt_len e1)]; exact e1, ?_⟩
      rw [far a n1 n2]
      exact e2
    · have hl := lt_len e
      rw [List.length_append, List.length_singleton] at hl
      have ej : j = S.length := by omega
      subst ej
      rw [List.getElem?_append_right (Nat.le_refl _), Nat.sub_self] at e
      have er : row = rw' := Option.some.inj e
      subst er
      refine ⟨D, by rw [List.getElem?_append_right (by rw [p.len]; exact Nat.le_refl _), p.len, Nat.sub_self]; rfl, ?_⟩
      rw [far D h1 h2]
      exact eD
  · rw [upd_same, List.map_append]
    rfl
  · rcases List.mem_append.mp ha with ha | ha
    · exact p.ne a ha
    · rw [List.mem_singleton.mp ha]
      exact ⟨h1, h2⟩
section
variable {P : Program} {w : World} {K : PySem.W.Frag} {mg : Str → Option Value} {base : Heap} {C : Addr}
abbrev n_lmachine : List Str := ["_law_script", "_law_at", "_law_most", "_law_cell_here", "_law_rooms", "_law_letters", "_law_factor", "_law_steps", "_law_ranks", "_law_room", "_law_one", "_law_row", "_law_rank", "_law_k"]
theorem sc_lmachine : FnScope n_lmachine ["_law_script", "_law_at", "_law_most"] (defScope s_law_machine) := ⟨rfl, rfl, rfl, by decide +kernel, rfl, by decide +kernel, by decide +kernel⟩
def spLmachine (K : PySem.W.Frag) : Sp := fun vs H Q _ => ∃ (a : Addr) (ns : List Int), vs = [.ref a, nV 0, nV 8] ∧ SqL K H a (ns.map V.int) ∧
  ∀ (H' : Hp) (t ls lr : Addr) (S : Stp) (R : List Nat) (k : Nat), Same H H' → H' t = some (.tup [.ref ls, .ref lr]) → Rows H' ls S → H' lr = some (.lst (R.map nV)) → WF S k → R.length = S.length → Q (.ref t) H'
theorem c_lmachine (T : Txt K mg C) (F : DefA K mg "_law_machine" s_law_machine ["_law_script", "_law_at", "_law_most"]) (CE : Cal P w K mg base 1 "_law_cell" (spCel K)) (MI : Cal P w K mg base 1 "_law_mix" spMix) : Cal P w K mg base 2 "_law_machine" (spLmachine K) := by
  refine cal F sc_lmachine (fun vs H Q E h => ?_) (fun f cdv A' outer s H vs Q E hr h => ?_)
  · obtain ⟨a, ns, rfl, _⟩ := h
    rfl
  · obtain ⟨a, ns, rfl, hS, q⟩ := h
    refine ⟨_, pss_cons (ps_set (i := 3) sc_lmachine.nd rfl (.inl rfl) (C8.pe_c CE hr (by decide) rfl (pa_cons (pv 0) (pa_cons (pv 1) pa_nil))))
      (pss_cons (ps_set (i := 4) sc_lmachine.nd rfl (.inr rfl) (pe_op op_addM pe_int (C8.pe_c MI hr (by decide) rfl (pa_cons (pv 3) (pa_cons pe_int (pa_cons (pe_ix ix_listH (pe_lst (pa_cons pe_int (pa_cons pe_int (pa_cons pe_int (pa_cons (pv 2) pa_nil))))) (C8.pe_c MI hr (by decide) rfl (pa_cons (pv 3) (pa_cons pe_int (pa_cons pe_int pa_nil)))) (fun _ _ => rfl)) pa_nil))))))
      (pss_cons (ps_set (i := 5) sc_lmachine.nd rfl (.inl rfl) (pe_op op_addM pe_int (C8.pe_c MI hr (by decide) rfl (pa_cons (pv 3) (pa_cons pe_int (pa_cons pe_int pa_nil))))))
      (pss_cons (ps_set (i := 6) sc_lmachine.nd rfl (.inl rfl) (pe_ix ix_listH (pe_lst (pa_cons pe_int (pa_cons pe_int (pa_cons pe_int (pa_cons (pe_op op_add pe_int (pe_op op_mul pe_int (pe_op op_mod (C8.pe_c CE hr (by decide) rfl (pa_cons (pv 0) (pa_cons (pe_op op_addM (pv 1) pe_int) pa_nil))) (pe_op op_pow pe_int pe_int)))) pa_nil))))) (C8.pe_c MI hr (by decide) rfl (pa_cons (pv 3) (pa_cons pe_int (pa_cons pe_int pa_nil)))) (fun _ _ => rfl)))
      (pss_cons (ps_set (i := 7) sc_lmachine.nd rfl (.inl rfl) (pe_lst pa_nil))
      (pss_cons (ps_set (i := 8) sc_lmachine.nd rfl (.inl rfl) (pe_lst pa_nil))
      (pss_cons (ps_for PassesOwn.never rfl (pi_range1 rfl T.range (pa_cons (pv 4) pa_nil)) (pg_name (i := 9) sc_lmachine.nd rfl (.inl rfl))
        (pss_cons (ps_set (i := 10) sc_lmachine.nd rfl (.inr rfl) (C8.pe_c CE hr (by decide) rfl (pa_cons (pv 0) (pa_cons (pe_op op_addM (pe_op op_addM (pv 1) pe_int) (pv 9)) pa_nil))))
        (pss_cons (ps_setLc (i := 11) (own := [("_law_k", 13)]) (g := gName 13) rfl sc_lmachine.nd rfl rfl (sw_true rfl rfl rfl (by decide +kernel)) (pi_range1 rfl T.range (pa_cons (pv 5) pa_nil))
            (blkOk_by (own := [("_law_k", 13)]) (N := n_lmachine) (sc := defScope s_law_machine) (by decide +kernel)) (fun _ _ _ _ _ => pg_name (i := 13) sc_lmachine.nd rfl (.inl rfl)) (fun _ _ _ _ _ => pts_nil)
            (fun _ _ _ _ _ => C8.pe_c MI hr (by decide) rfl (pa_cons (pv 10) (pa_cons (pe_op op_addM pe_int (pv 13)) (pa_cons (pv 4) pa_nil)))))
        (pss_cons (ps_set (i := 12) sc_lmachine.nd rfl (.inl rfl) (C8.pe_c MI hr (by decide) rfl (pa_cons (pv 10) (pa_cons pe_int (pa_cons pe_int pa_nil)))))
        (C8.pss_cut (ps_if (pt_cmpR op_eqM (C8.pe_c MI hr (by decide) rfl (pa_cons (pv 3) (pa_cons pe_int (pa_cons pe_int pa_nil)))) pe_int (nomark _))
            (pss_cons (ps_setLc (i := 11) (own := [("_law_k", 13)]) (g := gName 13) rfl sc_lmachine.nd rfl rfl (sw_true rfl rfl rfl (by decide +kernel)) (pi_range1 rfl T.range (pa_cons (pv 5) pa_nil))
                (blkOk_by (own := [("_law_k", 13)]) (N := n_lmachine) (sc := defScope s_law_machine) (by decide +kernel)) (fun _ _ _ _ _ => pg_name (i := 13) sc_lmachine.nd rfl (.inl rfl)) (fun _ _ _ _ _ => pts_nil)
                (fun _ _ _ _ _ => pe_op op_mod (pe_op op_fdivN (pv 10) (pe_ix ix_listH (pe_lst (pa_cons pe_int (pa_cons pe_int (pa_cons pe_int pa_nil)))) (pv 13) (fun _ _ => rfl))) (pv 4)))
            (pss_one (ps_set (i := 12) sc_lmachine.nd rfl (.inl rfl) (pe_op op_mod (pe_op op_fdivN (pv 10) pe_int) pe_int))))
            (pss_one (ps_if (PW.pt (pw_and (pt_cmpR op_eqM (C8.pe_c MI hr (by decide) rfl (pa_cons (pv 3) (pa_cons pe_int (pa_cons pe_int pa_nil)))) pe_int (nomark _)) (pw_and1 (pt_cmpR op_gtM (C8.pe_c MI hr (by decide) rfl (pa_cons (pv 10) (pa_cons pe_int (pa_cons pe_int pa_nil)))) pe_int (nomark _)))))
              (pss_one (ps_asg (pe_op op_modM (pe_op op_addM (pv 9) pe_int) (pv 4)) (pg_sub (pv 11) (C8.pe_c MI hr (by decide) rfl (pa_cons (pv 10) (pa_cons pe_int (pa_cons (pv 5) pa_nil)))) set_list))) pss_nil)))
        (pss_cons (ps_expr (pe_bm PySem.F.plainAttrs_list PySem.F.slot_list_append PySem.F.type_list_append mt_append (pv 7) (pa_cons (pv 11) pa_nil)))
        (pss_one (ps_expr (pe_bm PySem.F.plainAttrs_list PySem.F.slot_list_append PySem.F.type_list_append mt_append (pv 8) (pa_cons (pe_op op_mulN (pv 12) (pv 6)) pa_nil))))))))))
      (pss_one (ps_ret (pe_tup (pa_cons (pv 7) (pa_cons (pv 8) pa_nil))))))))))), ?_⟩
    -- the cell, how many rooms
    refine ⟨_, rfl, _, rfl, a, ns, 0, rfl, hS, by decide, fun H1 c s1 => ?_⟩
    refine ⟨_, rfl, _, rfl, by show 4 ≤ sizeLine; decide, fun p np => ⟨_, rfl, c, 5, 4, rfl, by decide, fun v hv => ?_⟩⟩
    obtain ⟨x, hx, hx'⟩ := pick4 (.int 4) (.int 5) (.int 5) (nV 8) hv
    refine ⟨p, _, (v : Int), x, rfl, rfl, upd_same, hx, ?_⟩
    obtain ⟨n0, h1, h8, rfl⟩ : ∃ n0 : Nat, 1 ≤ n0 ∧ n0 ≤ 8 ∧ x = nV n0 := by
      rcases hx' with rfl | rfl | rfl | rfl
      · exact ⟨4, by decide, by decide, rfl⟩
      · exact ⟨5, by decide, by decide, rfl⟩
      · exact ⟨5, by decide, by decide, rfl⟩
      · exact ⟨8, by decide, by decide, rfl⟩
    refine ⟨c, 1, n0, rfl, h1, fun u hu => ⟨1, u, rfl, rfl, ?_⟩⟩
    -- the letters
    refine ⟨_, rfl, c, 2, 3, rfl, by decide, fun k0 hk => ⟨1, k0, rfl, rfl, ?_⟩⟩
    obtain ⟨n, hn⟩ : ∃ n, n = 1 + u := ⟨_, rfl⟩
    obtain ⟨k, hk'⟩ : ∃ k, k = 1 + k0 := ⟨_, rfl⟩
    have hn1 : 1 ≤ n := by omega
    have hn8 : n ≤ 8 := by omega
    have hk1 : 1 ≤ k := by omega
    have hk3 : k ≤ 3 := by omega
    rw [← hn, ← hk']
    have s2 := s1.trans (same_upd (o := .lst [.int 4, .int 5, .int 5, nV 8]) np)
    -- the factor
    refine ⟨_, rfl, _, rfl, 0, 1, rfl, rfl, a, ns, 1, rfl, s2.seq hS, by decide, fun H3 z s3 => ?_⟩
    refine ⟨10, 27, rfl, rfl, ⟨by decide, by decide, by decide⟩, z, _, rfl, rfl, (by show (0 : Int) < 10 ^ (27 : Int).toNat; decide), ?_⟩
    obtain ⟨y, hy⟩ := emod_ex z (m := (10 : Int) ^ (27 : Int).toNat) (by decide)
    dsimp only
    rw [hy]
    refine ⟨2, (y : Int), rfl, rfl, .inl ⟨by decide, by decide⟩, 1, 2 * (y : Int), rfl, rfl, by show 4 ≤ sizeLine; decide, fun p2 np2 => ⟨_, rfl, c, 4, 4, rfl, by decide, fun v2 hv2 => ?_⟩⟩
    obtain ⟨x2, hx2, hx2'⟩ := pick4 (.int 1) (.int 1) (.int 1) (.int (1 + 2 * (y : Int))) hv2
    refine ⟨p2, _, (v2 : Int), x2, rfl, rfl, upd_same, hx2, ?_⟩
    obtain ⟨fa, rfl⟩ : ∃ fa : Nat, x2 = nV fa := by
      rcases hx2' with rfl | rfl | rfl | rfl
      · exact ⟨1, rfl⟩
      · exact ⟨1, rfl⟩
      · exact ⟨1, rfl⟩
      · exact ⟨1 + 2 * y, congrArg V.int (by omega)⟩
    have s4 := (s2.trans s3).trans (same_upd (o := .lst [.int 1, .int 1, .int 1, .int (1 + 2 * (y : Int))]) np2)
    generalize upd H3 p2 (.lst [.int 1, .int 1, .int 1, .int (1 + 2 * (y : Int))]) = H4 at s4 ⊢
    -- steps = []; ranks = []
    refine ⟨Nat.zero_le _, fun ls nls => ⟨Nat.zero_le _, fun lr nlr => ?_⟩⟩
    have nlsH : H ls = none := s4.free nls
    have hlr : ls ≠ lr := fun e => by
      rw [← e, upd_same] at nlr
      cases nlr
    have nlrH : H lr = none := (s4.trans (same_upd nls)).free nlr
    have s5 := (s4.trans (same_upd (o := .lst []) nls)).trans (same_upd (o := .lst []) nlr)
    have P0 : Part (upd (upd H4 ls (.lst [])) lr (.lst [])) ls lr [] [] [] := ⟨by rw [upd_ne hlr, upd_same]; rfl, rfl, fun j row e => by simp at e, upd_same, fun a ha => (nomatch ha)⟩
    generalize upd (upd H4 ls (.lst [])) lr (.lst []) = H5 at s5 P0 ⊢
    refine ⟨_, rfl, (n : Int), rfl, by omega, by omega, ?_⟩
    rw [Int.toNat_natCast]
    refine for_range (lo := 0) (n := n) (fun i σ H' => ∃ (S : Stp) (R : List Nat) (as : List Addr) (v9 v10 v11 v12 : Option V), σ = [some (.ref a), some (nV 0), some (nV 8), some (.int c), some (nV n), some (nV k), some (nV fa), some (.ref ls), some (.ref lr), v9, v10, v11, v12, none] ∧ Same H H' ∧
        Part H' ls lr S R as ∧ S.length = i ∧ R.length = i ∧ (∀ row ∈ S, row.length = k) ∧ ∀ row ∈ S, ∀ x ∈ row, x < n)
      ⟨[], [], [], none, none, none, none, rfl, s5, P0, rfl, rfl, fun row h => (nomatch h), fun row h => (nomatch h)⟩ ?_ ?_
    · rintro i σ H1' hi ⟨S, R, as, v9, v10, v11, v12, rfl, t1, PT, hSl, hRl, hrk, hrl⟩
      have ei : (0 : Int) + (i : Int) = ((i : Nat) : Int) := by omega
      rw [ei]
      -- one = cell(script, at + 2 + room)
      refine ⟨_, rfl, _, rfl, 0, 2, rfl, rfl, _, rfl, 0 + 2, i, rfl, rfl, a, ns, 0 + 2 + i, rfl, t1.seq hS, by omega, fun H2 one t2 => ?_⟩
      have PT2 := PT.same t2
      -- row = [..]
      refine ⟨_, rfl, (k : Int), rfl, by omega, by omega, fun D nD => ?_⟩
      rw [Int.toNat_natCast]
      refine lc_range (lo := 0) (n := k) (fun j H'' => ∃ row : List Nat, Same H2 H'' ∧ H'' D = some (.lst (row.map nV)) ∧ row.length = j ∧ ∀ x ∈ row, x < n)
        ⟨[], same_upd nD, upd_same, rfl, fun x hx => (nomatch hx)⟩ ?_ ?_
      · rintro j H'' hj ⟨row, s', eD, hl, hx⟩
        have ej : (0 : Int) + (j : Int) = ((j : Nat) : Int) := by omega
        rw [ej]
        refine ⟨rfl, _, rfl, _, rfl, 11, j, rfl, rfl, _, rfl, one, 11 + j, n, rfl, by omega, fun v hv => ?_⟩
        refine ⟨_, eD, ?_, row ++ [v], same_put s' nD, ?_, ?_, fun x hx' => ?_⟩
        · rw [List.length_map]
          exact small1000 (by omega)
        · rw [upd_same, List.map_append]
          rfl
        · rw [List.length_append, List.length_singleton, hl]
        · rcases List.mem_append.mp hx' with h | h
          · exact hx x h
          · rw [List.mem_singleton.mp h]
            exact hv
      · rintro H3' ⟨row, s', eD, hl, hx⟩
        have PT3 := PT2.same s'
        have t3 : Same H H3' := (t1.trans t2).trans s'
        have nD2 : H2 D = none := nD
        have nDH : H D = none := (t1.trans t2).free nD
        have dls : D ≠ ls := fun e => by
          rw [e, PT2.el] at nD2
          cases nD2
        have dlr : D ≠ lr := fun e => by
          rw [e, PT2.er] at nD2
          cases nD2
        -- rank = mix(one, 10, 7)
        refine ⟨_, rfl, one, 10, 7, rfl, by decide, fun rank hrank => ?_⟩
        -- the three ways, joined
        refine ⟨fun σ H' => ∃ (D : Addr) (row : List Nat) (rank : Nat), σ = [some (.ref a), some (nV 0), some (nV 8), some (.int c), some (nV n), some (nV k), some (nV fa), some (.ref ls), some (.ref lr), some (nV i), some (.int one), some (.ref D), some (nV rank), none] ∧
          Same H H' ∧ Part H' ls lr S R as ∧ H' D = some (.lst (row.map nV)) ∧ row.length = k ∧ (∀ x ∈ row, x < n) ∧ rank < 7 ∧ D ≠ ls ∧ D ≠ lr, ?_, ?_⟩
        · refine ⟨_, rfl, c, 6, 2, rfl, by decide, fun v6 hv6 => ⟨v6, 0, rfl, rfl, _, rfl, ite2 (fun h0 => ?_) (fun h0 => ?_)⟩⟩
          · refine ⟨_, rfl, (k : Int), rfl, by omega, by omega, fun D2 nD2' => ?_⟩
            rw [Int.toNat_natCast]
            refine lc_range (lo := 0) (n := k) (fun j H'' => ∃ row : List Nat, Same H3' H'' ∧ H'' D2 = some (.lst (row.map nV)) ∧ row.length = j ∧ ∀ x ∈ row, x < n)
              ⟨[], same_upd nD2', upd_same, rfl, fun x hx => (nomatch hx)⟩ ?_ ?_
            · rintro j H'' hj ⟨row, s'', eD2, hl, hx⟩
              have ej : (0 : Int) + (j : Int) = ((j : Nat) : Int) := by omega
              rw [ej]
              refine ⟨rfl, _, rfl, by show 3 ≤ sizeLine; decide, fun p3 np3 => ⟨_, rfl, ?_⟩⟩
              obtain ⟨x3, hx3, hx3'⟩ := pick3 (.int 1) (.int 8) (.int 64) (show j < 3 by omega)
              refine ⟨p3, _, (j : Int), x3, rfl, rfl, upd_same, hx3, ?_⟩
              obtain ⟨d, hd0, hd1, rfl⟩ : ∃ d : Int, d ≠ 0 ∧ d.natAbs < 1073741824 ∧ x3 = .int d := by
                rcases hx3' with rfl | rfl | rfl
                · exact ⟨1, by decide, by decide, rfl⟩
                · exact ⟨8, by decide, by decide, rfl⟩
                · exact ⟨64, by decide, by decide, rfl⟩
              refine ⟨one, d, rfl, rfl, ⟨hd0, hd1⟩, _, rfl, _, (n : Int), rfl, rfl, (by show (0 : Int) < (n : Int); omega), ?_⟩
              obtain ⟨y3, hy3, e3⟩ := emod_nat (one.fdiv d) (show 0 < n by omega)
              dsimp only
              rw [e3]
              have eD3 : (upd H'' p3 (.lst [.int 1, .int 8, .int 64])) D2 = some (.lst (row.map nV)) := by
                rw [upd_ne (ne_of_none eD2 np3)]
                exact eD2
              refine ⟨_, eD3, ?_, row ++ [y3], same_put (s''.trans (same_upd np3)) nD2', ?_, ?_, fun x hx' => ?_⟩
              · rw [List.length_map]
                exact small1000 (by omega)
              · rw [upd_same, List.map_append]
                rfl
              · rw [List.length_append, List.length_singleton, hl]
              · rcases List.mem_append.mp hx' with h | h
                · exact hx x h
                · rw [List.mem_singleton.mp h]
                  exact hy3
            · rintro H4' ⟨row2, s'', eD2, hl2, hx2⟩
              refine ⟨_, rfl, one, 512, rfl, rfl, ⟨by decide, by decide⟩, _, 7, rfl, rfl, (by show (0 : Int) < 7; decide), ?_⟩
              obtain ⟨y4, hy4, e4⟩ := emod_nat (one.fdiv 512) (show 0 < 7 by decide)
              have e4 : one.fdiv 512 % 7 = (y4 : Int) := e4
              dsimp only
              rw [e4]
              refine ⟨D2, row2, y4, rfl, t3.trans s'', PT3.same s'', eD2, hl2, hx2, hy4, fun e => ?_, fun e => ?_⟩
              · rw [e, PT3.el] at nD2'
                cases nD2'
              · rw [e, PT3.er] at nD2'
                cases nD2'
          · refine ⟨_, rfl, c, 3, 2, rfl, by decide, fun v3 hv3 => ⟨v3, 0, rfl, rfl, _, rfl, ite2 (fun h3 => ?_) (fun h3 => ?_)⟩⟩
            · refine ⟨_, rfl, one, 8, 4, rfl, by decide, fun v8 hv8 => ⟨v8, 0, rfl, rfl, _, rfl, ite2 (fun h8 => ?_) (fun h8 => ?_)⟩⟩
              · refine ⟨_, rfl, i, 1, rfl, rfl, _, rfl, i + 1, n, rfl, rfl, by omega, _, rfl, _, rfl, _, rfl, one, 9, k, rfl, by omega, fun j hj => ?_⟩
                refine ⟨D, _, (j : Int), j, rfl, rfl, eD, ?_, ?_⟩
                · unfold ixN
                  rw [if_pos (by omega), if_pos (by rw [List.length_map, hl]; omega), Int.toNat_natCast]
                · have em : (row.map nV).set j (nV ((i + 1) % n)) = (row.set j ((i + 1) % n)).map nV := by rw [List.map_set]
                  rw [em]
                  refine ⟨D, row.set j ((i + 1) % n), rank, rfl, same_put t3 nDH, ?_, upd_same, by rw [List.length_set, hl], fun x hx' => ?_, hrank, dls, dlr⟩
                  · exact PT2.same (same_put s' nD2)
                  · rcases List.mem_or_eq_of_mem_set hx' with h | h
                    · exact hx x h
                    · rw [h]
                      exact Nat.mod_lt _ (by omega)
              · exact ⟨D, row, rank, rfl, t3, PT3, eD, hl, hx, hrank, dls, dlr⟩
            · exact iteF ⟨D, row, rank, rfl, t3, PT3, eD, hl, hx, hrank, dls, dlr⟩
        · rintro σ H' ⟨D, row, rank, rfl, t4, PT4, eD, hl, hx, hrank, dls, dlr⟩
          refine ⟨.ref ls, rfl, .inl ⟨rfl, _, SqL.of PT4.el⟩, _, rfl, ls, _, _, rfl, rfl, PT4.el, ?_, ?_⟩
          · rw [List.length_map, PT4.len]
            exact small1000 (by omega)
          · have er : (upd H' ls (.lst (as.map V.ref ++ [V.ref D]))) lr = some (.lst (R.map nV)) := by
              rw [upd_ne hlr.symm]
              exact PT4.er
            refine ⟨.ref lr, rfl, .inl ⟨rfl, _, SqL.of er⟩, _, rfl, _, rfl, rank, fa, rfl, rfl, by omega, lr, _, _, rfl, rfl, er, ?_, ?_⟩
            · rw [List.length_map]
              exact small1000 (by omega)
            · refine ⟨S ++ [row], R ++ [rank * fa], as ++ [D], _, _, _, _, rfl, same_put (same_put t4 nlsH) nlrH, PT4.more hlr eD dls dlr, ?_, ?_, fun r hr' => ?_, fun r hr' x hx' => ?_⟩
              · rw [List.length_append, List.length_singleton, hSl]
              · rw [List.length_append, List.length_singleton, hRl]
              · rcases List.mem_append.mp hr' with h | h
                · exact hrk r h
                · rw [List.mem_singleton.mp h]
                  exact hl
              · rcases List.mem_append.mp hr' with h | h
                · exact hrl r h x hx'
                · rw [List.mem_singleton.mp h] at hx'
                  exact hx x hx'
    · rintro σ H' ⟨S, R, as, v9, v10, v11, v12, rfl, t1, PT, hSl, hRl, hrk, hrl⟩
      refine ⟨_, rfl, _, rfl, by show 2 ≤ sizeLine; decide, fun t nt => ?_⟩
      have st := same_upd (o := .tup [.ref ls, .ref lr]) nt
      exact q _ t ls lr S R k (t1.trans st) upd_same (PT.same st).rowsOf (st _ _ PT.er) ⟨by omega, by omega, hk1, hk3, hrk, fun row h x hx => by rw [hSl]; exact hrl row h x hx⟩ (by omega)
end
end Lr

set_option Elab.async false
set_option linter.all false
set_option maxRecDepth 100000
set_option maxHeartbeats 4000000
namespace Lr
open PySem PySem.Spec PyProof.Rows L2
/-! ### the plain law of one room -/
/-- the rooms below i from which no loop of a sort can be come to -/
def NoneTo (S : Stp) (R : List Nat) (wanted : Bool) (i b : Nat) : Prop := ∀ g, b.testBit g = true ↔ g < i ∧ ¬ ∃ L x, Sort' S R wanted L ∧ L.testBit x = true ∧ Rch S (full S) g x
theorem NoneTo.zero (S : Stp) (R : List Nat) (wanted : Bool) : NoneTo S R wanted 0 0 := fun g => by
  rw [Nat.zero_testBit]
  exact ⟨fun z => (nomatch z), fun z => absurd z.1 (Nat.not_lt_zero _)⟩
theorem NoneTo.add {S : Stp} {R : List Nat} {wanted : Bool} {i b : Nat} (h : NoneTo S R wanted i b) (n : ¬ ∃ L x, Sort' S R wanted L ∧ L.testBit x = true ∧ Rch S (full S) i x) : NoneTo S R wanted (i + 1) (b + 2 ^ i) := fun g => by
  have hi : b.testBit i = false := by
    cases e : b.testBit i with
    | false => rfl
    | true => exact absurd ((h i).mp e).1 (Nat.lt_irrefl _)
  rw [Nat.add_comm b, add_bit hi, h, range_mem (fun g => ¬ ∃ L x, Sort' S R wanted L ∧ L.testBit x = true ∧ Rch S (full S) g x)]
  constructor
  · rintro (rfl | z)
    · exact .inr ⟨rfl, n⟩
    · exact .inl z
  · rintro (z | ⟨z, _⟩)
    · exact .inr z
    · exact .inl z
theorem NoneTo.skip {S : Stp} {R : List Nat} {wanted : Bool} {i b : Nat} (h : NoneTo S R wanted i b) (n : ∃ L x, Sort' S R wanted L ∧ L.testBit x = true ∧ Rch S (full S) i x) : NoneTo S R wanted (i + 1) b := fun g => by
  rw [h, range_mem (fun g => ¬ ∃ L x, Sort' S R wanted L ∧ L.testBit x = true ∧ Rch S (full S) g x)]
  constructor
  · exact .inl
  · rintro (z | ⟨_, z⟩)
    · exact z
    · exact absurd n z
theorem NoneTo.same {S : Stp} {R : List Nat} {wanted : Bool} {a b : Nat} (h : NoneTo S R wanted S.length a) (h' : NoneOf S R wanted b) : b = a := bits_eq fun r => by rw [h, h']
/-- the loops that can be come to from r, as a list -/
def SomeOf (S : Stp) (r : Nat) (so : List Nat) : Prop := ∀ L, L ∈ so ↔ Loop S L ∧ ∀ g, L.testBit g = true → Rch S (full S) r g
theorem SomeOf.ne {S : Stp} {k r : Nat} {so : List Nat} (W : WF S k) (hr : r < S.length) (h : SomeOf S r so) : 0 < so.length := by
  obtain ⟨L, l, a⟩ := some_loop W hr
  exact List.length_pos_of_mem ((h L).mpr ⟨l, a⟩)
theorem SomeOf.sort {S : Stp} {R : List Nat} {k r : Nat} {wanted : Bool} {so : List Nat} (W : WF S k) (h : SomeOf S r so) : (∃ L x, Sort' S R wanted L ∧ L.testBit x = true ∧ Rch S (full S) r x) ↔ ∃ L ∈ so, Sort' S R wanted L := by
  constructor
  · rintro ⟨L, x, s, hx, c⟩
    refine ⟨L, (h L).mpr ⟨s.1, fun g hg => c.trans ?_⟩, s⟩
    refine (s.1.all x g hx hg).rch.mono fun y hy => ?_
    exact (full_bit _ _).mpr (s.1.lt W hy)
  · rintro ⟨L, hL, s⟩
    obtain ⟨x, hx⟩ := s.1.ne
    exact ⟨L, x, s, hx, ((h L).mp hL).2 x hx⟩
theorem sort_not {S : Stp} {R : List Nat} {k L : Nat} (W : WF S k) (hR : R.length = S.length) (l : Loop S L) : Sort' S R false L ↔ ¬ Sort' S R true L := by
  obtain ⟨t, ht⟩ := Top.ex (R := R) l.ne (fun r hr => l.lt W hr) hR
  constructor
  · rintro ⟨_, u, hu, e⟩ ⟨_, v, hv, f⟩
    rw [hu.one hv] at e
    rw [e] at f
    cases f
  · intro n
    refine ⟨l, t, ht, ?_⟩
    cases e : decide (t % 2 = 0) with
    | false => rfl
    | true => exact absurd ⟨l, t, ht, e⟩ n
/-- a list of what a longer one has and the sort asks -/
theorem goods_all {so go : List Nat} {P : Nat → Prop} (hle : go.length ≤ so.length) (heq : go.length = so.length ↔ ∀ L ∈ so, P L) : go.length = so.length ↔ ¬ ∃ L ∈ so, ¬ P L := by
  rw [heq]
  constructor
  · rintro h ⟨L, a, b⟩
    exact b (h L a)
  · intro h L a
    exact Classical.byContradiction fun n => h ⟨L, a, n⟩
end Lr

set_option Elab.async false
set_option linter.all false
set_option maxRecDepth 100000
set_option maxHeartbeats 4000000
namespace Lr
open PySem PySem.Spec PyProof.Rows L2
theorem sum_cast : ∀ l : List Nat, (l.map fun z : Nat => (z : Int)).sum = ((l.sum : Nat) : Int)
  | [] => rfl
  | a :: l => by
    rw [List.map_cons, List.sum_cons, List.sum_cons, sum_cast l, Int.natCast_add]
section
variable {P : Program} {w : World} {K : PySem.W.Frag} {mg : Str → Option Value} {base : Heap} {C : Addr}
abbrev n_law : List Str := ["_law_script", "_law_steps", "_law_ranks", "_law_many", "_law_machine_here", "_law_loops_here", "_law_dead", "_law_sure", "_law_room", "_law_seen", "_law_bits", "_law_some", "_law_goods", "_law_goal", "_law_front", "_law_found", "_law_row", "_law_one"]
theorem sc_law : FnScope n_law ["_law_script"] (defScope s_law) := ⟨rfl, rfl, rfl, by decide +kernel, rfl, by decide +kernel, by decide +kernel⟩
def spLaw (K : PySem.W.Frag) : Sp := fun vs H Q _ => ∃ (a : Addr) (ns : List Int), vs = [.ref a] ∧ SqL K H a (ns.map V.int) ∧ ∀ H', Q (.bl true) H'
theorem c_law {f : Addr} {fd : FuncData} (T : Txt K mg C) (F : FunD K "law" "law" (defArgs s_law) (defBody s_law) (defScope s_law) [] [] f fd) (CE : Cal P w K mg base 1 "_law_cell" (spCel K)) (MI : Cal P w K mg base 1 "_law_mix" spMix) (LM : Cal P w K mg base 2 "_law_machine" (spLmachine K))
    (LW : Cal P w K mg base 1 "_law_whole" spWhole) (LA : Cal P w K mg base 1 "_law_ahead" spAhead) (LL : Cal P w K mg base 3 "_law_loops" spLloops) (LT : Cal P w K mg base 1 "_law_top" spLtop)
    (MK : C8.Mak P w K mg base 4 "Machine" C (spInit C) []) (WI : Cal P w K mg base 2 "way_in" (spWayIn C)) (RI : Cal P w K mg base 6 "round_in" (spRoundIn C)) (LE : Met P w K mg base 4 C "lets" (spLets C))
    (DR : Cal P w K mg base 7 "dead_rooms" (spNone C true)) (SR : Cal P w K mg base 7 "sure_rooms" (spNone C false)) : FnOk P w K mg base C8.CX0 8 f fd ["_law_script"] (spLaw K) := by
  refine F.ok sc_law (fun vs H Q E h => ?_) (fun cdv A' outer s H vs Q E hr h => ?_)
  · obtain ⟨a, ns, rfl, _⟩ := h
    rfl
  · obtain ⟨a, ns, rfl, hS, q⟩ := h
    refine ⟨_, PSs.nox (pss_cons (ps_asg (C8.pe_c LM hr (by decide) rfl (pa_cons (pv 0) (pa_cons pe_int (pa_cons pe_int pa_nil)))) (pg_tup rfl (pgs_cons (pg_name (i := 1) sc_law.nd rfl (.inl rfl)) (pgs_cons (pg_name (i := 2) sc_law.nd rfl (.inr rfl)) pgs_nil))))
      (pss_cons (ps_set (i := 3) sc_law.nd rfl (.inl rfl) (pe_callB call_len_seq (by rfl) T.len PySem.boot_len (pa_cons (pv 1) pa_nil)))
      (pss_cons (ps_set (i := 4) sc_law.nd rfl (.inl rfl) (C8.pe_mk MK hr (by decide) rfl (pa_cons
          (pe_lc (own := [("_law_row", 16)]) (g := gName 16) rfl sc_law.nd (pi_list (pv 1))
            (blkOk_by (own := [("_law_row", 16)]) (N := n_law) (sc := defScope s_law) (by decide +kernel))
            (fun _ _ _ _ _ => pg_name (i := 16) sc_law.nd rfl (.inl rfl)) (fun _ _ _ _ _ => pts_nil)
            (te := tCB (fun xs H Q => ∃ p ys, xs = [.ref p] ∧ (SqL K H p ys ∨ SqT K H p ys) ∧ ∀ l, H l = none → Q (.ref l) (upd H l (.lst ys))) (tCons (tVar 16) tNil))
            (fun _ _ _ _ _ => pe_callTy call_list_of (by rfl) T.list (by decide +kernel) (pa_cons (pv 16) pa_nil)))
          (pa_cons (pe_callTy call_list_of (by rfl) T.list (by decide +kernel) (pa_cons (pv 2) pa_nil)) pa_nil))))
      (pss_cons (ps_set (i := 5) sc_law.nd rfl (.inl rfl) (C8.pe_c LL hr (by decide) rfl (pa_cons (pv 1) pa_nil)))
      (pss_cons (ps_set (i := 6) sc_law.nd rfl (.inl rfl) pe_int)
      (pss_cons (ps_set (i := 7) sc_law.nd rfl (.inl rfl) pe_int)
      (pss_cons (ps_for PassesOwn.never rfl (pi_range1 rfl T.range (pa_cons (pv 3) pa_nil)) (pg_name (i := 8) sc_law.nd rfl (.inl rfl))
        (pss_cons (ps_set (i := 9) sc_law.nd rfl (.inr rfl) (pe_callB (cr_sum rfl) (by rfl) T.sum (by decide +kernel) (pa_cons
          (pe_lc (own := [("_law_one", 17)]) (g := gName 17) rfl sc_law.nd (pi_list (C8.pe_c LA hr (by decide) rfl (pa_cons (pv 1) (pa_cons (pe_op op_subM (pe_op op_oneN pe_int (pv 3)) pe_int) (pa_cons (pv 8) pa_nil)))))
            (blkOk_by (own := [("_law_one", 17)]) (N := n_law) (sc := defScope s_law) (by decide +kernel))
            (fun _ _ _ _ _ => pg_name (i := 17) sc_law.nd rfl (.inl rfl)) (fun _ _ _ _ _ => pts_nil)
            (fun _ _ _ _ _ => pe_op op_oneN pe_int (pv 17))) pa_nil)))
        (pss_cons (ps_setLc (i := 11) (own := [("_law_bits", 10)]) (g := gName 10) rfl sc_law.nd rfl rfl (sw_true rfl rfl rfl (by decide +kernel)) (pi_list (pv 5))
            (blkOk_by (own := [("_law_bits", 10)]) (N := n_law) (sc := defScope s_law) (by decide +kernel)) (fun _ _ _ _ _ => pg_name (i := 10) sc_law.nd rfl (.inl rfl))
            (fun _ _ _ _ _ => pts_one (pt_cmpR op_eqM (pe_op op_orN (pv 10) (pv 9)) (pv 9) (nomark _))) (fun _ _ _ _ _ => pv 10))
        (pss_cons (ps_setLc (i := 12) (own := [("_law_bits", 10)]) (g := gName 10) rfl sc_law.nd rfl rfl (sw_true rfl rfl rfl (by decide +kernel)) (pi_list (pv 11))
            (blkOk_by (own := [("_law_bits", 10)]) (N := n_law) (sc := defScope s_law) (by decide +kernel)) (fun _ _ _ _ _ => pg_name (i := 10) sc_law.nd rfl (.inl rfl))
            (fun _ _ _ _ _ => pts_one (pt_cmpR op_eqM (pe_op op_modM (C8.pe_c LT hr (by decide) rfl (pa_cons (pv 2) (pa_cons (pv 10) pa_nil))) pe_int) pe_int (nomark _))) (fun _ _ _ _ _ => pv 10))
        (C8.pss_cut (ps_if (pt_cmpR (op_eqLI hr.units) (pv 12) (pe_lst pa_nil) (nomark _)) (pss_one (ps_set (i := 6) sc_law.nd rfl (.inl rfl) (pe_op op_addM (pv 6) (pe_op op_oneN pe_int (pv 8))))) pss_nil)
        (C8.pss_cut (ps_if (pt_cmpR op_eqM (pe_callB call_len_seq (by rfl) T.len PySem.boot_len (pa_cons (pv 12) pa_nil)) (pe_callB call_len_seq (by rfl) T.len PySem.boot_len (pa_cons (pv 11) pa_nil)) (nomark _)) (pss_one (ps_set (i := 7) sc_law.nd rfl (.inl rfl) (pe_op op_addM (pv 7) (pe_op op_oneN pe_int (pv 8))))) pss_nil)
        (pss_cons (ps_set (i := 10) sc_law.nd rfl (.inr rfl) (pe_ix ix_list (pv 11) (C8.pe_c MI hr (by decide) rfl (pa_cons (C8.pe_c CE hr (by decide) rfl (pa_cons (pv 0) (pa_cons pe_int pa_nil))) (pa_cons (pe_op op_addM pe_int (pv 8)) (pa_cons (pe_callB call_len_seq (by rfl) T.len PySem.boot_len (pa_cons (pv 11) pa_nil)) pa_nil)))) (fun _ _ => rfl)))
        (pss_cons (ps_set (i := 13) sc_law.nd rfl (.inl rfl) (pe_ix ix_list
          (pe_lc (own := [("_law_one", 17)]) (g := gName 17) rfl sc_law.nd (pi_range1 rfl T.range (pa_cons (pv 3) pa_nil))
            (blkOk_by (own := [("_law_one", 17)]) (N := n_law) (sc := defScope s_law) (by decide +kernel))
            (fun _ _ _ _ _ => pg_name (i := 17) sc_law.nd rfl (.inl rfl))
            (fun _ _ _ _ _ => pts_one (pt_cmpR op_eqM (pe_op op_andN (pe_op op_shrM (pv 10) (pv 17)) pe_int) pe_int (nomark _)))
            (fun _ _ _ _ _ => pv 17)) pe_int (fun _ _ => rfl)))
        (pss_cons (ps_set (i := 14) sc_law.nd rfl (.inl rfl) (C8.pe_c WI hr (by decide) rfl (pa_cons (pv 4) (pa_cons (pe_op op_subM (pe_op op_oneN pe_int (pv 3)) pe_int) (pa_cons (pv 8) (pa_cons (pv 13) pa_nil))))))
        (pss_cons (ps_set (i := 15) sc_law.nd rfl (.inl rfl) (C8.pe_mt LE hr (by decide) (pv 4) (pa_cons (pe_tup (pa_cons (pv 14) (pa_cons (C8.pe_c RI hr (by decide) rfl (pa_cons (pv 4) (pa_cons (pv 10) (pa_cons (pv 13) pa_nil)))) pa_nil))) (pa_cons (pv 8) pa_nil))))
        (pss_one (ps_if (PW.pt (pw_or (pt_not (pt_val (pe_callB call_isi (by rfl) T.isi (by decide +kernel) (pa_cons (pv 15) (pa_cons (pe_bltn (by rfl) T.bool (by decide +kernel) (v := .ty "bool") rfl) pa_nil)))))
            (pw_or1 (pt_cmpR op_ne (pv 15) (pe_cmpR op_inN (pv 10) (pv 12) rfl) (nomark _))))) (pss_one (ps_ret pe_bl)) pss_nil))))))))))))
      (pss_cons (ps_if (PW.pt (pw_or (pt_not (pt_val (C8.pe_c LW hr (by decide) rfl (pa_cons (C8.pe_c DR hr (by decide) rfl (pa_cons (pv 4) pa_nil)) pa_nil))))
          (pw_or1 (pt_not (pt_val (C8.pe_c LW hr (by decide) rfl (pa_cons (C8.pe_c SR hr (by decide) rfl (pa_cons (pv 4) pa_nil)) pa_nil))))))) (pss_one (ps_ret pe_bl)) pss_nil)
      (pss_one (ps_ret (pe_and (pe_cmpR op_eqM (C8.pe_c DR hr (by decide) rfl (pa_cons (pv 4) pa_nil)) (pv 6) (nomark _)) (pe_one (pe_cmpR op_eqM (C8.pe_c SR hr (by decide) rfl (pa_cons (pv 4) pa_nil)) (pv 7) (nomark _)))))))))))))), ?_⟩
    -- steps, ranks = machine(script, 0, 8)
    refine ⟨_, rfl, a, ns, rfl, hS, fun H1 t ls lr S R k s1 et hR elr W hRl => ?_⟩
    refine ⟨t, _, rfl, .inl (.inl et), rfl, _, _, rfl, _, _, rfl, rfl, ?_⟩
    have n1 := W.n1
    have n8 := W.n8
    obtain ⟨rs, h1, h2, h3⟩ := id hR
    refine ⟨_, rfl, ls, _, rfl, .inl (SqL.of h1), ?_⟩
    have eN : ((rs.map V.ref).length : Int) = (S.length : Int) := by rw [List.length_map, h2]
    rw [eN]
    -- Machine([list(row) for row in steps], list(ranks))
    refine ⟨_, rfl, ls, rfl, ⟨_, SqL.of h1⟩, fun D nD => ?_⟩
    refine lc_list (K := K) (a := ls) (xs := rs.map V.ref) (fun i H' => ∃ as : List Addr, Same H1 H' ∧ as.length = i ∧ H' D = some (.lst (as.map V.ref)) ∧ ∀ (j : Nat) (row : List Nat), j < i → S[j]? = some row → ∃ a, as[j]? = some a ∧ H' a = some (.lst (row.map nV)))
      ⟨[], same_upd nD, rfl, upd_same, fun j row hj => absurd hj (Nat.not_lt_zero _)⟩ (fun i H' _ ⟨_, s', _⟩ => SqL.of (s' _ _ h1)) ?_ ?_
    · rintro i v H' hv ⟨as, s', hl, eD, hrows⟩
      have hi : i < S.length := by
        have := lt_len hv
        rw [List.length_map, h2] at this
        exact this
      obtain ⟨b, e1, e2⟩ := h3 i S[i] (List.getElem?_eq_getElem hi)
      rw [List.getElem?_map, e1] at hv
      have ev : V.ref b = v := Option.some.inj hv
      subst ev
      refine ⟨rfl, _, rfl, b, _, rfl, .inl (SqL.of (s' _ _ e2)), fun l nl => ?_⟩
      have nlD : D ≠ l := ne_of_none eD nl
      refine ⟨_, by rw [upd_ne nlD]; exact eD, ?_, as ++ [l], same_put (s'.trans (same_upd nl)) nD, ?_, ?_, fun j row hj hr' => ?_⟩
      · rw [List.length_map]
        exact small1000 (by omega)
      · rw [List.length_append, List.length_singleton, hl]
      · rw [upd_same, List.map_append]
        rfl
      · by_cases hji : j < i
        · obtain ⟨c, b1, b2⟩ := hrows j row hji hr'
          have hb : c ≠ D := fun e => by
            rw [e, eD] at b2
            have := HO.lst.inj (Option.some.inj b2)
            cases row with
            | nil =>
              have hl0 := W.row [] (List.mem_of_getElem? hr')
              have := W.k1
              simp at hl0
              omega
            | cons y ys =>
              cases as with
              | nil => cases this
              | cons z zs => cases (List.cons.inj this).1
          refine ⟨c, by rw [List.getElem?_append_left (lt_len b1)]; exact b1, ?_⟩
          rw [upd_ne hb, upd_ne (ne_of_none b2 nl)]
          exact b2
        · have e : j = i := by omega
          subst e
          rw [List.getElem?_eq_getElem hi] at hr'
          have er : S[j] = row := Option.some.inj hr'
          refine ⟨l, by rw [List.getElem?_append_right (by omega), hl, Nat.sub_self]; rfl, ?_⟩
          rw [upd_ne nlD.symm, upd_same, er]
    rintro H2 ⟨as, s2, hl, eD, hrows⟩
    rw [List.length_map] at hl hrows
    have hD : Rows H2 D S := ⟨as, eD, by omega, fun j row e => hrows j row (by have := lt_len e; omega) e⟩
    refine ⟨_, rfl, lr, _, rfl, .inl (SqL.of (s2 _ _ elr)), fun l nl => ?_⟩
    intro x dx nx ndx hdx
    refine ⟨upd H2 l (.lst (R.map nV)), x, D, l, dx, S, R, k, rfl, same_put (same_upd ndx) nx, nx, upd_same, (hD.same (same_upd nl)).same (same_put (same_upd ndx) nx), same_put (same_upd ndx) nx _ _ upd_same, W, hRl, fun H3 s3 M => ⟨rfl, ?_⟩⟩
    have sH3 : Same H1 H3 := (s2.trans (same_upd nl)).trans s3
    -- the loops
    refine ⟨_, rfl, ls, S, k, rfl, hR.same sH3, W, fun H4 lp ps s4 ep hpl hps => ?_⟩
    have hR4 := (hR.same sH3).same s4
    have M4 := M.same s4
    have el4 := s4 _ _ (sH3 _ _ elr)
    have sq4 : SqL K H4 a (ns.map V.int) := s4.seq (sH3.seq (s1.seq hS))
    -- the rooms
    refine ⟨_, rfl, (S.length : Int), rfl, by omega, by omega, ?_⟩
    rw [Int.toNat_natCast]
    refine for_range (lo := 0) (n := S.length) (fun i σ H' => ∃ (d u : Nat) (v8 v9 v10 v11 v12 v13 v14 v15 : Option V), σ = [some (.ref a), some (.ref ls), some (.ref lr), some (nV S.length), some (.ref x), some (.ref lp), some (nV d), some (nV u), v8, v9, v10, v11, v12, v13, v14, v15, none, none] ∧ Same H4 H' ∧
        NoneTo S R true i d ∧ NoneTo S R false i u)
      ⟨0, 0, none, none, none, none, none, none, none, none, rfl, Same.refl _, NoneTo.zero S R true, NoneTo.zero S R false⟩ ?_ ?_
    · rintro i σ H5 hi ⟨d, u, v8, v9, v10, v11, v12, v13, v14, v15, rfl, s5, hd, hu⟩
      have ei : (0 : Int) + (i : Int) = ((i : Nat) : Int) := by omega
      rw [ei]
      have sH5 := s5
      have hR5 := hR4.same s5
      have M5 := M4.same s5
      have el5 := s5 _ _ el4
      have full8 : ∀ r, (full S).testBit r = true ↔ r < S.length := fun r => full_bit _ _
      have one1 : 1 ≤ 2 ^ S.length := Nat.one_le_two_pow
      -- seen
      refine ⟨_, rfl, _, rfl, S.length, rfl, rfl, by omega, 2 ^ S.length, 1, rfl, rfl, one1, _, rfl, ls, S, k, full S, i, rfl, hR5, W, hi, fun H6 p fs s6 ep6 nd6 hfs => ?_⟩
      refine ⟨p, rfl, ⟨_, SqL.of ep6⟩, fun D1 nD1 => ?_⟩
      have lfs : ∀ g ∈ fs, g < S.length := fun g hg => ((hfs g).mp hg).lt W hi
      have lf8 := nodup_len nd6 lfs
      refine lc_list (K := K) (a := p) (xs := fs.map nV) (fun j H' => Same H6 H' ∧ H' D1 = some (.lst (((fs.take j).map fun z => 2 ^ z).map nV)))
        ⟨same_upd nD1, upd_same⟩ (fun i H' _ ⟨s', _⟩ => SqL.of (s' _ _ ep6)) ?_ ?_
      · rintro j v H' hv ⟨s', eD1⟩
        obtain ⟨z, hz, rfl⟩ := nV_get hv
        have := lfs z (List.mem_of_getElem? hz)
        refine ⟨rfl, _, rfl, z, rfl, rfl, by omega, _, eD1, ?_, same_put s' nD1, ?_⟩
        · rw [List.length_map, List.length_map, List.length_take]
          exact small1000 (by omega)
        · rw [upd_same, List.take_add_one, hz, List.map_append, List.map_append]
          rfl
      rintro H7 ⟨s7, eD1⟩
      rw [List.length_map, List.take_length] at eD1
      refine ⟨D1, ((fs.map fun z => 2 ^ z).map fun z : Nat => (z : Int)), rfl, SqL.of (by rw [eD1, map_nV]), ?_⟩
      rw [sum_cast]
      have hseen : ∀ g, ((fs.map fun z => 2 ^ z).sum).testBit g = true ↔ Rch S (full S) i g := fun g => by rw [sum_bits nd6, hfs]
      generalize (fs.map fun z => 2 ^ z).sum = seen at hseen ⊢
      have s47 : Same H4 H7 := (s5.trans s6).trans s7
      -- some
      refine ⟨_, rfl, lp, rfl, ⟨_, SqL.of (s47 _ _ ep)⟩, fun D2 nD2 => ?_⟩
      refine lc_list (K := K) (a := lp) (xs := ps.map nV) (fun j H' => ∃ so : List Nat, Same H7 H' ∧ H' D2 = some (.lst (so.map nV)) ∧ so.length ≤ j ∧ ∀ L, L ∈ so ↔ L ∈ ps.take j ∧ L ||| seen = seen)
        ⟨[], same_upd nD2, upd_same, Nat.le_refl _, fun L => by simp⟩ (fun i H' _ ⟨_, s', _⟩ => SqL.of (s' _ _ (s47 _ _ ep))) ?_ ?_
      · rintro j v H' hv ⟨so, s', eD2, hl2, hm⟩
        obtain ⟨L, hL, rfl⟩ := nV_get hv
        have hj := lt_len hL
        refine ⟨rfl, _, rfl, _, rfl, L, seen, rfl, rfl, _, rfl, L ||| seen, seen, rfl, rfl, _, rfl, ite2 (fun hb => ?_) (fun hb => ?_)⟩
        · refine ⟨_, rfl, _, eD2, ?_, so ++ [L], same_put s' nD2, ?_, ?_, fun g => ?_⟩
          · rw [List.length_map]
            exact small1000 (by omega)
          · rw [upd_same, List.map_append]
            rfl
          · rw [List.length_append, List.length_singleton]
            omega
          · rw [List.mem_append, hm, List.mem_singleton, take_step hL]
            constructor
            · rintro (⟨h, e⟩ | rfl)
              · exact ⟨.inl h, e⟩
              · exact ⟨.inr rfl, of_decide_eq_true hb⟩
            · rintro ⟨h | rfl, e⟩
              · exact .inl ⟨h, e⟩
              · exact .inr rfl
        · refine ⟨so, s', eD2, by omega, fun g => ?_⟩
          rw [hm, take_step hL]
          constructor
          · exact fun z => ⟨.inl z.1, z.2⟩
          · rintro ⟨h | rfl, e⟩
            · exact ⟨h, e⟩
            · exact absurd (decide_eq_true e) hb
      rintro H8 ⟨so, s8, eD2, hl2, hm⟩
      rw [List.length_map] at hl2
      rw [List.length_map, List.take_length] at hm
      have hso : SomeOf S i so := fun L => by
        rw [hm, hps, sub_or]
        constructor
        · exact fun z => ⟨z.1, fun g hg => (hseen g).mp (z.2 g hg)⟩
        · exact fun z => ⟨z.1, fun g hg => (hseen g).mpr (z.2 g hg)⟩
      have s48 := s47.trans s8
      -- goods
      refine ⟨_, rfl, D2, rfl, ⟨_, SqL.of eD2⟩, fun D3 nD3 => ?_⟩
      refine lc_list (K := K) (a := D2) (xs := so.map nV) (fun j H' => ∃ go : List Nat, Same H8 H' ∧ H' D3 = some (.lst (go.map nV)) ∧ go.length ≤ j ∧ (∀ L, L ∈ go ↔ L ∈ so.take j ∧ Sort' S R true L) ∧ (go.length = j ↔ ∀ L ∈ so.take j, Sort' S R true L))
        ⟨[], same_upd nD3, upd_same, Nat.le_refl _, fun L => by simp, by simp⟩ (fun i H' _ ⟨_, s', _⟩ => SqL.of (s' _ _ eD2)) ?_ ?_
      · rintro j v H' hv ⟨go, s', eD3, hl3, hg, hal⟩
        obtain ⟨L, hL, rfl⟩ := nV_get hv
        have hj := lt_len hL
        have loop := ((hso L).mp (List.mem_of_getElem? hL)).1
        refine ⟨rfl, _, rfl, _, rfl, lr, R, L, rfl, s' _ _ (s48 _ _ el4), by omega, by rw [hRl]; exact loop.bd W, loop.ne, fun H9 t s9 top => ⟨t, 2, rfl, rfl, by decide, t % 2, 0, rfl, rfl, _, rfl, ite2 (fun hb => ?_) (fun hb => ?_)⟩⟩
        · have good : Sort' S R true L := ⟨loop, t, top, hb⟩
          refine ⟨_, rfl, _, s9 _ _ eD3, ?_, go ++ [L], same_put (s'.trans s9) nD3, ?_, ?_, fun g => ?_, ?_⟩
          · rw [List.length_map]
            exact small1000 (by omega)
          · rw [upd_same, List.map_append]
            rfl
          · rw [List.length_append, List.length_singleton]
            omega
          · rw [List.mem_append, hg, List.mem_singleton, take_step hL]
            constructor
            · rintro (⟨h, e⟩ | rfl)
              · exact ⟨.inl h, e⟩
              · exact ⟨.inr rfl, good⟩
            · rintro ⟨h | rfl, e⟩
              · exact .inl ⟨h, e⟩
              · exact .inr rfl
          · rw [List.length_append, List.length_singleton, Nat.add_right_cancel_iff, hal]
            constructor
            · intro h g hg'
              rcases (take_step hL g).mp hg' with h' | rfl
              · exact h g h'
              · exact good
            · exact fun h g hg' => h g ((take_step hL g).mpr (.inl hg'))
        · have bad : ¬ Sort' S R true L := fun ⟨_, t', top', e⟩ => by
            rw [top.one top'] at hb
            exact hb e
          refine ⟨go, s'.trans s9, s9 _ _ eD3, by omega, fun g => ?_, ?_⟩
          · rw [hg, take_step hL]
            constructor
            · exact fun z => ⟨.inl z.1, z.2⟩
            · rintro ⟨h | rfl, e⟩
              · exact ⟨h, e⟩
              · exact absurd e bad
          · exact ⟨fun e => by omega, fun h => absurd (h L ((take_step hL L).mpr (.inr rfl))) bad⟩
      rintro H9 ⟨go, s9, eD3, hl3, hg, hal⟩
      rw [List.length_map] at hl3
      rw [List.length_map, List.take_length] at hg hal
      have s49 := s48.trans s9
      have eD2' := s9 _ _ eD2
      have g1 : go = [] ↔ ¬ ∃ L x, Sort' S R true L ∧ L.testBit x = true ∧ Rch S (full S) i x := by
        rw [hso.sort W]
        constructor
        · rintro e ⟨L, hL, s⟩
          have := (hg L).mpr ⟨hL, s⟩
          rw [e] at this
          cases this
        · intro h
          cases go with
          | nil => rfl
          | cons L l =>
            obtain ⟨z1, z2⟩ := (hg L).mp (List.mem_cons_self ..)
            exact absurd ⟨L, z1, z2⟩ h
      have g2 : go.length = so.length ↔ ¬ ∃ L x, Sort' S R false L ∧ L.testBit x = true ∧ Rch S (full S) i x := by
        rw [hso.sort W, hal]
        constructor
        · rintro h ⟨L, hL, s⟩
          exact (sort_not W hRl ((hso L).mp hL).1).mp s (h L hL)
        · intro h L hL
          exact Classical.byContradiction fun n => h ⟨L, hL, (sort_not W hRl ((hso L).mp hL).1).mpr n⟩
      -- if goods == []: dead = dead + (1 << room)
      refine ⟨fun σ H' => ∃ d' : Nat, σ = [some (.ref a), some (.ref ls), some (.ref lr), some (nV S.length), some (.ref x), some (.ref lp), some (nV d'), some (nV u), some (nV i), some (nV seen), v10, some (.ref D2), some (.ref D3), v13, v14, v15, none, none] ∧ Same H9 H' ∧ NoneTo S R true (i + 1) d', ?_, ?_⟩
      · refine ⟨_, rfl, Nat.zero_le _, fun p2 np2 => ?_⟩
        have sp := same_upd (o := .lst []) np2
        refine ⟨D3, p2, go.map fun z : Nat => (z : Int), [], rfl, rfl, SqL.of (by rw [sp _ _ eD3, map_nV]), SqL.of upd_same, _, rfl, ite2 (fun hb => ?_) (fun hb => ?_)⟩
        · have hb : go = [] := List.map_eq_nil_iff.mp (of_decide_eq_true hb)
          refine ⟨_, rfl, _, rfl, i, rfl, rfl, by omega, d, 2 ^ i, rfl, rfl, ?_⟩
          exact ⟨d + 2 ^ i, rfl, sp, hd.add (g1.mp hb)⟩
        · have hb : ¬ go = [] := fun e => hb (decide_eq_true (by rw [e]; rfl))
          exact ⟨d, rfl, sp, hd.skip (Classical.byContradiction fun n => hb (g1.mpr n))⟩
      rintro σ H10 ⟨d', rfl, s10, hd'⟩
      -- if len(goods) == len(some): sure = sure + (1 << room)
      refine ⟨fun σ H' => ∃ u' : Nat, σ = [some (.ref a), some (.ref ls), some (.ref lr), some (nV S.length), some (.ref x), some (.ref lp), some (nV d'), some (nV u'), some (nV i), some (nV seen), v10, some (.ref D2), some (.ref D3), v13, v14, v15, none, none] ∧ H' = H10 ∧ NoneTo S R false (i + 1) u', ?_, ?_⟩
      · refine ⟨_, rfl, D3, _, rfl, .inl (SqL.of (s10 _ _ eD3)), _, rfl, D2, _, rfl, .inl (SqL.of (s10 _ _ eD2')), (go.map nV).length, (so.map nV).length, rfl, rfl, _, rfl, ?_⟩
        rw [List.length_map, List.length_map]
        refine ite2 (fun hb => ?_) (fun hb => ?_)
        · refine ⟨_, rfl, _, rfl, i, rfl, rfl, by omega, u, 2 ^ i, rfl, rfl, ?_⟩
          exact ⟨u + 2 ^ i, rfl, rfl, hu.add (g2.mp (of_decide_eq_true hb))⟩
        · exact ⟨u, rfl, rfl, hu.skip (Classical.byContradiction fun n => hb (decide_eq_true (g2.mpr n)))⟩
      rintro σ H11 ⟨u', rfl, rfl, hu'⟩
      have s411 := s49.trans s10
      -- bits = some[mix(cell(script, 1), 21 + room, len(some))]
      refine ⟨_, rfl, _, rfl, a, ns, 1, rfl, s411.seq sq4, by decide, fun H12 c s12 => ?_⟩
      have eD2c := s12 _ _ (s10 _ _ eD2')
      refine ⟨_, rfl, 21, i, rfl, rfl, _, rfl, D2, _, rfl, .inl (SqL.of eD2c), c, 21 + i, (so.map nV).length, rfl, by rw [List.length_map]; exact hso.ne W hi, fun v hv => ?_⟩
      rw [List.length_map] at hv
      have hL := List.getElem?_eq_getElem hv
      generalize so[v] = L at hL
      refine ⟨D2, _, (v : Int), nV L, rfl, rfl, SqL.of eD2c, atI_nat (get_nV hL), ?_⟩
      obtain ⟨loop, hreach⟩ := (hso L).mp (List.mem_of_getElem? hL)
      -- goal
      refine ⟨_, rfl, (S.length : Int), rfl, by omega, by omega, fun D4 nD4 => ?_⟩
      rw [Int.toNat_natCast]
      refine lc_range (lo := 0) (n := S.length) (fun j H' => ∃ rs : List Nat, Same H12 H' ∧ H' D4 = some (.lst (rs.map nV)) ∧ rs.length ≤ j ∧ ∀ g, g ∈ rs ↔ g < j ∧ L.testBit g = true)
        ⟨[], same_upd nD4, upd_same, Nat.le_refl _, fun g => by simp⟩ ?_ ?_
      · rintro j H' hj ⟨rs, s', eD4, hl4, hm4⟩
        have ej : (0 : Int) + (j : Int) = ((j : Nat) : Int) := by omega
        rw [ej]
        refine ⟨rfl, _, rfl, _, rfl, L, j, rfl, rfl, L / 2 ^ j, 1, rfl, rfl, (L / 2 ^ j) &&& 1, 1, rfl, rfl, _, rfl, ?_⟩
        rw [bit_dec]
        refine ite2 (fun hb => ?_) (fun hb => ?_)
        · refine ⟨_, rfl, _, eD4, ?_, rs ++ [j], same_put s' nD4, ?_, ?_, fun g => ?_⟩
          · rw [List.length_map]
            exact small1000 (by omega)
          · rw [upd_same, List.map_append]
            rfl
          · rw [List.length_append, List.length_singleton]
            omega
          · rw [List.mem_append, hm4, List.mem_singleton, range_mem (fun g => L.testBit g = true)]
            constructor
            · rintro (h | rfl)
              · exact .inl h
              · exact .inr ⟨rfl, hb⟩
            · rintro (h | ⟨h, _⟩)
              · exact .inl h
              · exact .inr h
        · refine ⟨rs, s', eD4, by omega, fun g => ?_⟩
          rw [hm4, range_mem (fun g => L.testBit g = true)]
          constructor
          · exact .inl
          · rintro (h | ⟨_, h⟩)
            · exact h
            · exact absurd h hb
      rintro H13 ⟨rs4, s13, eD4, hl4, hm4⟩
      obtain ⟨g, hg0, hgL⟩ : ∃ g, rs4[0]? = some g ∧ L.testBit g = true := by
        obtain ⟨r0, hr0⟩ := loop.ne
        have : 0 < rs4.length := List.length_pos_of_mem ((hm4 r0).mpr ⟨loop.lt W hr0, hr0⟩)
        have e := List.getElem?_eq_getElem this
        exact ⟨_, e, ((hm4 _).mp (List.mem_of_getElem? e)).2⟩
      have a0 : atI (rs4.map nV) ((0 : Nat) : Int) = some (nV g) := atI_nat (get_nV hg0)
      refine ⟨D4, _, 0, nV g, rfl, rfl, SqL.of eD4, a0, ?_⟩
      have s413 := (s411.trans s12).trans s13
      have M13 := M4.same s413
      -- front
      refine ⟨_, rfl, _, rfl, S.length, rfl, rfl, by omega, 2 ^ S.length, 1, rfl, rfl, one1, _, rfl, _, rfl, x, S, R, k, full S, i, g, rfl, M13, full_lt S, (full8 i).mpr hi, (full8 g).mpr (loop.lt W hgL), hreach g hgL, fun H14 wa s14 lwa bwa hwa nwa => ?_⟩
      have M14 := M13.same s14
      obtain ⟨_, _, dxm, lsm, lrm, em, _⟩ := id M14
      -- found
      refine ⟨_, rfl, x, dxm, _, rfl, em, by rfl, _, rfl, _, rfl, _, rfl, _, rfl, x, S, R, k, L, g, rfl, M14, loop, hgL, fun H15 wb s15 lwb bwb hwb nwb0 nwb => ?_⟩
      refine ⟨by show 2 ≤ sizeLine; decide, fun tt ntt => ⟨_, rfl, ?_⟩⟩
      have M15 := (M14.same s15).same (same_upd (o := .tup [.str (wd wa), .str (wd wb)]) ntt)
      refine ⟨x, tt, S, R, k, i, L, wa, wb, rfl, M15, upd_same, ⟨hi, lwa, lwb, nwb0, by omega, by omega, by rw [bwa]; exact bwb⟩, by rw [bwa]; exact hwb, fun H16 tp s16 top => ?_⟩
      have s416 := (((s413.trans s14).trans s15).trans (same_upd ntt)).trans s16
      have eD3' := s16 _ _ (same_upd (o := .tup [.str (wd wa), .str (wd wb)]) ntt _ _ (s15 _ _ (s14 _ _ (s13 _ _ (s12 _ _ (s10 _ _ eD3))))))
      have key : decide (tp % 2 = 0) = decide (L ∈ go) := by
        refine decide_eq_decide.mpr ?_
        rw [hg]
        constructor
        · exact fun z => ⟨List.mem_of_getElem? hL, loop, tp, top, decide_eq_true z⟩
        · rintro ⟨_, _, t', top', e⟩
          rw [top.one top']
          exact of_decide_eq_true e
      refine ⟨_, rfl, _, _, _, _, true, rfl, .ty "bool", .base (.bl _), kit_ty (by decide +kernel), _, rfl, iteF ?_⟩
      refine ⟨_, rfl, _, rfl, _, rfl, L, D3, go, rfl, rfl, SqL.of eD3', rfl, _, rfl, ?_⟩
      rw [key, bl_eq, decide_eq_true rfl]
      exact iteF ⟨d', u', some (nV i), some (nV seen), some (nV L), some (.ref D2), some (.ref D3), some (nV g), some (.str (wd wa)), some (.bl (decide (L ∈ go))), rfl, s416, hd', hu'⟩
    · rintro σ H5 ⟨d, u, v8, v9, v10, v11, v12, v13, v14, v15, rfl, s5, hd, hu⟩
      refine ⟨_, rfl, x, S, R, k, rfl, M4.same s5, fun H6 b1 s6 hb1 => ⟨_, rfl, _, rfl, iteF ?_⟩⟩
      have M6 := (M4.same s5).same s6
      refine ⟨_, rfl, x, S, R, k, rfl, M6, fun H7 b2 s7 hb2 => ⟨_, rfl, _, rfl, iteF ?_⟩⟩
      have M7 := M6.same s7
      refine ⟨_, rfl, x, S, R, k, rfl, M7, fun H8 b3 s8 hb3 => ⟨_, rfl, b3, d, rfl, rfl, _, rfl, ?_⟩⟩
      rw [decide_eq_true (hd.same hb3)]
      refine iteT ⟨_, rfl, x, S, R, k, rfl, M7.same s8, fun H9 b4 s9 hb4 => ⟨_, rfl, b4, u, rfl, rfl, ?_⟩⟩
      rw [decide_eq_true (hu.same hb4)]
      exact q H9
end
end Lr

set_option Elab.async false
set_option linter.all false
set_option maxRecDepth 100000
set_option maxHeartbeats 0
namespace Lr
open PySem PySem.Spec PyProof.Rows L2
/-! ### the head: facts by names -/
def d_is_word : He.DefD := ⟨("is_word", none), "is_word", "is_word", defArgs s_is_word, defBody s_is_word, defScope s_is_word, [], []⟩
def d_is_endless : He.DefD := ⟨("is_endless", none), "is_endless", "is_endless", defArgs s_is_endless, defBody s_is_endless, defScope s_is_endless, [], []⟩
def d_bits_of : He.DefD := ⟨("bits_of", none), "bits_of", "bits_of", defArgs s_bits_of, defBody s_bits_of, defScope s_bits_of, [], []⟩
def d_rooms_of : He.DefD := ⟨("rooms_of", none), "rooms_of", "rooms_of", defArgs s_rooms_of, defBody s_rooms_of, defScope s_rooms_of, [], []⟩
def d_has_room : He.DefD := ⟨("has_room", none), "has_room", "has_room", defArgs s_has_room, defBody s_has_room, defScope s_has_room, [], []⟩
def d_every_room : He.DefD := ⟨("every_room", none), "every_room", "every_room", defArgs s_every_room, defBody s_every_room, defScope s_every_room, [], []⟩
def d_spread : He.DefD := ⟨("spread", none), "spread", "spread", defArgs s_spread, defBody s_spread, defScope s_spread, [], []⟩
def d_seen_from : He.DefD := ⟨("seen_from", none), "seen_from", "seen_from", defArgs s_seen_from, defBody s_seen_from, defScope s_seen_from, [], []⟩
def d_reaching : He.DefD := ⟨("reaching", none), "reaching", "reaching", defArgs s_reaching, defBody s_reaching, defScope s_reaching, [], []⟩
def d_beyond : He.DefD := ⟨("beyond", none), "beyond", "beyond", defArgs s_beyond, defBody s_beyond, defScope s_beyond, [], []⟩
def d_loop_parts : He.DefD := ⟨("loop_parts", none), "loop_parts", "loop_parts", defArgs s_loop_parts, defBody s_loop_parts, defScope s_loop_parts, [], []⟩
def d_is_loop : He.DefD := ⟨("is_loop", none), "is_loop", "is_loop", defArgs s_is_loop, defBody s_is_loop, defScope s_is_loop, [], []⟩
def d_top_rank : He.DefD := ⟨("top_rank", none), "top_rank", "top_rank", defArgs s_top_rank, defBody s_top_rank, defScope s_top_rank, [], []⟩
def d_way_in : He.DefD := ⟨("way_in", none), "way_in", "way_in", defArgs s_way_in, defBody s_way_in, defScope s_way_in, [], []⟩
def d_turning_letter : He.DefD := ⟨("turning_letter", none), "turning_letter", "turning_letter", defArgs s_turning_letter, defBody s_turning_letter, defScope s_turning_letter, [], []⟩
def d_round_in : He.DefD := ⟨("round_in", none), "round_in", "round_in", defArgs s_round_in, defBody s_round_in, defScope s_round_in, [], []⟩
def d_up_to_rank : He.DefD := ⟨("up_to_rank", none), "up_to_rank", "up_to_rank", defArgs s_up_to_rank, defBody s_up_to_rank, defScope s_up_to_rank, [], []⟩
def d_parts_of_rank : He.DefD := ⟨("parts_of_rank", none), "parts_of_rank", "parts_of_rank", defArgs s_parts_of_rank, defBody s_parts_of_rank, defScope s_parts_of_rank, [], []⟩
def d_rooms_on_loops : He.DefD := ⟨("rooms_on_loops", none), "rooms_on_loops", "rooms_on_loops", defArgs s_rooms_on_loops, defBody s_rooms_on_loops, defScope s_rooms_on_loops, [], []⟩
def d_dead_rooms : He.DefD := ⟨("dead_rooms", none), "dead_rooms", "dead_rooms", defArgs s_dead_rooms, defBody s_dead_rooms, defScope s_dead_rooms, [], []⟩
def d_sure_rooms : He.DefD := ⟨("sure_rooms", none), "sure_rooms", "sure_rooms", defArgs s_sure_rooms, defBody s_sure_rooms, defScope s_sure_rooms, [], []⟩
def d_is_whole : He.DefD := ⟨("is_whole", none), "is_whole", "is_whole", defArgs s_is_whole, defBody s_is_whole, defScope s_is_whole, [], []⟩
def d_is_step : He.DefD := ⟨("is_step", none), "is_step", "is_step", defArgs s_is_step, defBody s_is_step, defScope s_is_step, [], []⟩
def d_are_steps : He.DefD := ⟨("are_steps", none), "are_steps", "are_steps", defArgs s_are_steps, defBody s_are_steps, defScope s_are_steps, [], []⟩
def d_are_ranks : He.DefD := ⟨("are_ranks", none), "are_ranks", "are_ranks", defArgs s_are_ranks, defBody s_are_ranks, defScope s_are_ranks, [], []⟩
def d_law_cell : He.DefD := ⟨("_law_cell", none), "_law_cell", "_law_cell", defArgs s_law_cell, defBody s_law_cell, defScope s_law_cell, [], []⟩
def d_law_mix : He.DefD := ⟨("_law_mix", none), "_law_mix", "_law_mix", defArgs s_law_mix, defBody s_law_mix, defScope s_law_mix, [], []⟩
def d_law_machine : He.DefD := ⟨("_law_machine", none), "_law_machine", "_law_machine", defArgs s_law_machine, defBody s_law_machine, defScope s_law_machine, [], []⟩
def d_law_whole : He.DefD := ⟨("_law_whole", none), "_law_whole", "_law_whole", defArgs s_law_whole, defBody s_law_whole, defScope s_law_whole, [], []⟩
def d_law_ahead : He.DefD := ⟨("_law_ahead", none), "_law_ahead", "_law_ahead", defArgs s_law_ahead, defBody s_law_ahead, defScope s_law_ahead, [], []⟩
def d_law_is_loop : He.DefD := ⟨("_law_is_loop", none), "_law_is_loop", "_law_is_loop", defArgs s_law_is_loop, defBody s_law_is_loop, defScope s_law_is_loop, [], []⟩
def d_law_loops : He.DefD := ⟨("_law_loops", none), "_law_loops", "_law_loops", defArgs s_law_loops, defBody s_law_loops, defScope s_law_loops, [], []⟩
def d_law_top : He.DefD := ⟨("_law_top", none), "_law_top", "_law_top", defArgs s_law_top, defBody s_law_top, defScope s_law_top, [], []⟩
def d_law : He.DefD := ⟨("law", none), "law", "law", defArgs s_law, defBody s_law, defScope s_law, [], []⟩
def e_init : He.DefD := ⟨("Machine", some "__init__"), "__init__", "Machine.__init__", defArgs m_init, defBody m_init, defScope m_init, [], []⟩
def e_need : He.DefD := ⟨("Machine", some "need"), "need", "Machine.need", defArgs m_need, defBody m_need, defScope m_need, [], []⟩
def e_along : He.DefD := ⟨("Machine", some "along"), "along", "Machine.along", defArgs m_along, defBody m_along, defScope m_along, [], []⟩
def e_walk : He.DefD := ⟨("Machine", some "walk"), "walk", "Machine.walk", defArgs m_walk, defBody m_walk, defScope m_walk, [.int 0], []⟩
def e_lets : He.DefD := ⟨("Machine", some "lets"), "lets", "Machine.lets", defArgs m_lets, defBody m_lets, defScope m_lets, [.int 0], []⟩
def fn : List He.DefD := [d_is_word, d_is_endless, d_bits_of, d_rooms_of, d_has_room, d_every_room, d_spread, d_seen_from, d_reaching, d_beyond, d_loop_parts, d_is_loop, d_top_rank, d_way_in, d_turning_letter, d_round_in, d_up_to_rank, d_parts_of_rank, d_rooms_on_loops, d_dead_rooms, d_sure_rooms, d_is_whole, d_is_step, d_are_steps, d_are_ranks, d_law_cell, d_law_mix, d_law_machine, d_law_whole, d_law_ahead, d_law_is_loop, d_law_loops, d_law_top, d_law, e_init, e_need, e_along, e_walk, e_lets]
def fa1 : List He.Fa := [.glo "is_word", .glo "is_endless", .glo "bits_of", .glo "rooms_of", .glo "has_room", .glo "every_room", .glo "spread", .glo "seen_from", .glo "reaching", .glo "beyond", .glo "loop_parts", .glo "is_loop", .glo "top_rank", .glo "way_in", .glo "turning_letter", .glo "round_in", .glo "up_to_rank", .glo "parts_of_rank", .glo "rooms_on_loops", .glo "dead_rooms", .glo "sure_rooms", .glo "is_whole", .glo "is_step", .glo "are_steps", .glo "are_ranks", .glo "_law_cell", .glo "_law_mix", .glo "_law_machine", .glo "_law_whole", .glo "_law_ahead", .glo "_law_is_loop", .glo "_law_loops", .glo "_law_top", .glo "law"]
def fa2 : List He.Fa := [.glo "Machine", .str "LETTERS" "abc", .int "MOST_ROOMS" 8, .free "isinstance", .free "str", .free "tuple", .free "len", .free "int", .free "bool", .free "list", .free "range", .free "max", .free "zip", .free "sorted", .free "set", .free "sum", .cls "Machine", .noat "Machine" "steps", .noat "Machine" "ranks", .noat "Machine" "many", .noat "Machine" "letters", .meth "Machine" "need", .meth "Machine" "along", .meth "Machine" "walk", .meth "Machine" "lets", .mkr "Machine"]
def fa : List He.Fa := fa1 ++ fa2
def nms1 : List PySem.Str := ["_wall", "RankError", "NoWord", "NoMachine", "NoRoom", "NoLoop", "LETTERS", "MOST_ROOMS", "Machine", "is_word", "is_endless", "bits_of", "rooms_of", "has_room", "every_room", "spread", "seen_from", "reaching", "beyond", "loop_parts", "is_loop", "top_rank"]
def nms2 : List PySem.Str := ["way_in", "turning_letter", "round_in", "up_to_rank", "parts_of_rank", "rooms_on_loops", "dead_rooms", "sure_rooms", "is_whole", "is_step", "are_steps", "are_ranks", "_law_cell", "_law_mix", "_law_machine", "_law_whole", "_law_ahead", "_law_is_loop", "_law_loops", "_law_top"]
def nms : List PySem.Str := nms1 ++ nms2
abbrev R : PySem.W.OpenRow := PySem.W.OpenLaw.row PySem.Challenge.rw_looprank_k25_dead_and_sure
abbrev hk : PySem.W.Hook := He.hookD 5 fa fn
def ob (s : PySem.W.SharedT) : He.AlD := He.obsDG 5 fa fn (HandSHeadRun.getT s)
theorem ob_eq (s : PySem.W.SharedT) : ob s = hk.obs s.abs := He.obsDG_eq (HandSHeadRun.getT_eq s)
theorem run (w : World) : HandSHeadRun.RunEq R (PySem.W.view R.prog [47]) hk ob 3000 nms w := by
  intro os
  kernel_rfl
end Lr

set_option Elab.async false
set_option linter.all false
set_option maxRecDepth 100000
set_option maxHeartbeats 4000000
namespace Lr
open PySem PySem.Spec PyProof.Rows L2
section
variable {P : Program} {w : World} {K : PySem.W.Frag} {h : Heap} {mg : Str → Option Value}
theorem txt (X : K.In h) (G : h.Ns mainGlobals mg) (c : He.SaysD fa fn K) : Txt K mg (He.ga K "Machine") where
  cl := He.cls_ok (c.fact 50 (f := .cls "Machine") rfl)
  nS := He.noat_ok (c.fact 51 (f := .noat "Machine" "steps") rfl)
  nR := He.noat_ok (c.fact 52 (f := .noat "Machine" "ranks") rfl)
  nM := He.noat_ok (c.fact 53 (f := .noat "Machine" "many") rfl)
  nL := He.noat_ok (c.fact 54 (f := .noat "Machine" "letters") rfl)
  mgC := He.glo_ok X G (c.fact 34 (f := .glo "Machine") rfl)
  lets := He.str_ok X G (c.fact 35 (f := .str "LETTERS" "abc") rfl)
  most := He.int_ok X G (c.fact 36 (f := .int "MOST_ROOMS" 8) rfl)
  isi := He.free_ok X G (c.fact 37 (f := .free "isinstance") rfl)
  str := He.free_ok X G (c.fact 38 (f := .free "str") rfl)
  tuple := He.free_ok X G (c.fact 39 (f := .free "tuple") rfl)
  len := He.free_ok X G (c.fact 40 (f := .free "len") rfl)
  int := He.free_ok X G (c.fact 41 (f := .free "int") rfl)
  bool := He.free_ok X G (c.fact 42 (f := .free "bool") rfl)
  list := He.free_ok X G (c.fact 43 (f := .free "list") rfl)
  range := He.free_ok X G (c.fact 44 (f := .free "range") rfl)
  max := He.free_ok X G (c.fact 45 (f := .free "max") rfl)
  zip := He.free_ok X G (c.fact 46 (f := .free "zip") rfl)
  sorted := He.free_ok X G (c.fact 47 (f := .free "sorted") rfl)
  set := He.free_ok X G (c.fact 48 (f := .free "set") rfl)
  sum := He.free_ok X G (c.fact 49 (f := .free "sum") rfl)
theorem da_is_word (X : K.In h) (G : h.Ns mainGlobals mg) (c : He.SaysD fa fn K) : DefA K mg "is_word" s_is_word ["thing", "many"] := by
  obtain ⟨fd, F⟩ := c.def_ 0 (d := d_is_word) rfl
  exact ⟨_, fd, F, He.glo_ok X G (c.fact 0 (f := .glo "is_word") rfl), FunD.bindsN F fun _ _ _ _ _ _ us hl => match us, hl with | [_, _], _ => rfl⟩
theorem da_is_endless (X : K.In h) (G : h.Ns mainGlobals mg) (c : He.SaysD fa fn K) : DefA K mg "is_endless" s_is_endless ["thing", "many"] := by
  obtain ⟨fd, F⟩ := c.def_ 1 (d := d_is_endless) rfl
  exact ⟨_, fd, F, He.glo_ok X G (c.fact 1 (f := .glo "is_endless") rfl), FunD.bindsN F fun _ _ _ _ _ _ us hl => match us, hl with | [_, _], _ => rfl⟩
theorem da_bits_of (X : K.In h) (G : h.Ns mainGlobals mg) (c : He.SaysD fa fn K) : DefA K mg "bits_of" s_bits_of ["rooms"] := by
  obtain ⟨fd, F⟩ := c.def_ 2 (d := d_bits_of) rfl
  exact ⟨_, fd, F, He.glo_ok X G (c.fact 2 (f := .glo "bits_of") rfl), FunD.bindsN F fun _ _ _ _ _ _ us hl => match us, hl with | [_], _ => rfl⟩
theorem da_rooms_of (X : K.In h) (G : h.Ns mainGlobals mg) (c : He.SaysD fa fn K) : DefA K mg "rooms_of" s_rooms_of ["bits"] := by
  obtain ⟨fd, F⟩ := c.def_ 3 (d := d_rooms_of) rfl
  exact ⟨_, fd, F, He.glo_ok X G (c.fact 3 (f := .glo "rooms_of") rfl), FunD.bindsN F fun _ _ _ _ _ _ us hl => match us, hl with | [_], _ => rfl⟩
theorem da_has_room (X : K.In h) (G : h.Ns mainGlobals mg) (c : He.SaysD fa fn K) : DefA K mg "has_room" s_has_room ["bits", "room"] := by
  obtain ⟨fd, F⟩ := c.def_ 4 (d := d_has_room) rfl
  exact ⟨_, fd, F, He.glo_ok X G (c.fact 4 (f := .glo "has_room") rfl), FunD.bindsN F fun _ _ _ _ _ _ us hl => match us, hl with | [_, _], _ => rfl⟩
theorem da_every_room (X : K.In h) (G : h.Ns mainGlobals mg) (c : He.SaysD fa fn K) : DefA K mg "every_room" s_every_room ["machine"] := by
  obtain ⟨fd, F⟩ := c.def_ 5 (d := d_every_room) rfl
  exact ⟨_, fd, F, He.glo_ok X G (c.fact 5 (f := .glo "every_room") rfl), FunD.bindsN F fun _ _ _ _ _ _ us hl => match us, hl with | [_], _ => rfl⟩
theorem da_spread (X : K.In h) (G : h.Ns mainGlobals mg) (c : He.SaysD fa fn K) : DefA K mg "spread" s_spread ["machine", "rooms", "allowed"] := by
  obtain ⟨fd, F⟩ := c.def_ 6 (d := d_spread) rfl
  exact ⟨_, fd, F, He.glo_ok X G (c.fact 6 (f := .glo "spread") rfl), FunD.bindsN F fun _ _ _ _ _ _ us hl => match us, hl with | [_, _, _], _ => rfl⟩
theorem da_seen_from (X : K.In h) (G : h.Ns mainGlobals mg) (c : He.SaysD fa fn K) : DefA K mg "seen_from" s_seen_from ["machine", "room"] := by
  obtain ⟨fd, F⟩ := c.def_ 7 (d := d_seen_from) rfl
  exact ⟨_, fd, F, He.glo_ok X G (c.fact 7 (f := .glo "seen_from") rfl), FunD.bindsN F fun _ _ _ _ _ _ us hl => match us, hl with | [_, _], _ => rfl⟩
theorem da_reaching (X : K.In h) (G : h.Ns mainGlobals mg) (c : He.SaysD fa fn K) : DefA K mg "reaching" s_reaching ["machine", "goals"] := by
  obtain ⟨fd, F⟩ := c.def_ 8 (d := d_reaching) rfl
  exact ⟨_, fd, F, He.glo_ok X G (c.fact 8 (f := .glo "reaching") rfl), FunD.bindsN F fun _ _ _ _ _ _ us hl => match us, hl with | [_, _], _ => rfl⟩
theorem da_beyond (X : K.In h) (G : h.Ns mainGlobals mg) (c : He.SaysD fa fn K) : DefA K mg "beyond" s_beyond ["machine", "room", "allowed"] := by
  obtain ⟨fd, F⟩ := c.def_ 9 (d := d_beyond) rfl
  exact ⟨_, fd, F, He.glo_ok X G (c.fact 9 (f := .glo "beyond") rfl), FunD.bindsN F fun _ _ _ _ _ _ us hl => match us, hl with | [_, _, _], _ => rfl⟩
theorem da_loop_parts (X : K.In h) (G : h.Ns mainGlobals mg) (c : He.SaysD fa fn K) : DefA K mg "loop_parts" s_loop_parts ["machine", "allowed"] := by
  obtain ⟨fd, F⟩ := c.def_ 10 (d := d_loop_parts) rfl
  exact ⟨_, fd, F, He.glo_ok X G (c.fact 10 (f := .glo "loop_parts") rfl), FunD.bindsN F fun _ _ _ _ _ _ us hl => match us, hl with | [_, _], _ => rfl⟩
theorem da_is_loop (X : K.In h) (G : h.Ns mainGlobals mg) (c : He.SaysD fa fn K) : DefA K mg "is_loop" s_is_loop ["machine", "bits"] := by
  obtain ⟨fd, F⟩ := c.def_ 11 (d := d_is_loop) rfl
  exact ⟨_, fd, F, He.glo_ok X G (c.fact 11 (f := .glo "is_loop") rfl), FunD.bindsN F fun _ _ _ _ _ _ us hl => match us, hl with | [_, _], _ => rfl⟩
theorem da_top_rank (X : K.In h) (G : h.Ns mainGlobals mg) (c : He.SaysD fa fn K) : DefA K mg "top_rank" s_top_rank ["machine", "bits"] := by
  obtain ⟨fd, F⟩ := c.def_ 12 (d := d_top_rank) rfl
  exact ⟨_, fd, F, He.glo_ok X G (c.fact 12 (f := .glo "top_rank") rfl), FunD.bindsN F fun _ _ _ _ _ _ us hl => match us, hl with | [_, _], _ => rfl⟩
theorem da_way_in (X : K.In h) (G : h.Ns mainGlobals mg) (c : He.SaysD fa fn K) : DefA K mg "way_in" s_way_in ["machine", "allowed", "room", "goal"] := by
  obtain ⟨fd, F⟩ := c.def_ 13 (d := d_way_in) rfl
  exact ⟨_, fd, F, He.glo_ok X G (c.fact 13 (f := .glo "way_in") rfl), FunD.bindsN F fun _ _ _ _ _ _ us hl => match us, hl with | [_, _, _, _], _ => rfl⟩
theorem da_turning_letter (X : K.In h) (G : h.Ns mainGlobals mg) (c : He.SaysD fa fn K) : DefA K mg "turning_letter" s_turning_letter ["machine", "room"] := by
  obtain ⟨fd, F⟩ := c.def_ 14 (d := d_turning_letter) rfl
  exact ⟨_, fd, F, He.glo_ok X G (c.fact 14 (f := .glo "turning_letter") rfl), FunD.bindsN F fun _ _ _ _ _ _ us hl => match us, hl with | [_, _], _ => rfl⟩
theorem da_round_in (X : K.In h) (G : h.Ns mainGlobals mg) (c : He.SaysD fa fn K) : DefA K mg "round_in" s_round_in ["machine", "bits", "room"] := by
  obtain ⟨fd, F⟩ := c.def_ 15 (d := d_round_in) rfl
  exact ⟨_, fd, F, He.glo_ok X G (c.fact 15 (f := .glo "round_in") rfl), FunD.bindsN F fun _ _ _ _ _ _ us hl => match us, hl with | [_, _, _], _ => rfl⟩
theorem da_up_to_rank (X : K.In h) (G : h.Ns mainGlobals mg) (c : He.SaysD fa fn K) : DefA K mg "up_to_rank" s_up_to_rank ["machine", "allowed", "rank"] := by
  obtain ⟨fd, F⟩ := c.def_ 16 (d := d_up_to_rank) rfl
  exact ⟨_, fd, F, He.glo_ok X G (c.fact 16 (f := .glo "up_to_rank") rfl), FunD.bindsN F fun _ _ _ _ _ _ us hl => match us, hl with | [_, _, _], _ => rfl⟩
theorem da_parts_of_rank (X : K.In h) (G : h.Ns mainGlobals mg) (c : He.SaysD fa fn K) : DefA K mg "parts_of_rank" s_parts_of_rank ["machine", "allowed", "rank"] := by
  obtain ⟨fd, F⟩ := c.def_ 17 (d := d_parts_of_rank) rfl
  exact ⟨_, fd, F, He.glo_ok X G (c.fact 17 (f := .glo "parts_of_rank") rfl), FunD.bindsN F fun _ _ _ _ _ _ us hl => match us, hl with | [_, _, _], _ => rfl⟩
theorem da_rooms_on_loops (X : K.In h) (G : h.Ns mainGlobals mg) (c : He.SaysD fa fn K) : DefA K mg "rooms_on_loops" s_rooms_on_loops ["machine", "wanted"] := by
  obtain ⟨fd, F⟩ := c.def_ 18 (d := d_rooms_on_loops) rfl
  exact ⟨_, fd, F, He.glo_ok X G (c.fact 18 (f := .glo "rooms_on_loops") rfl), FunD.bindsN F fun _ _ _ _ _ _ us hl => match us, hl with | [_, _], _ => rfl⟩
theorem da_dead_rooms (X : K.In h) (G : h.Ns mainGlobals mg) (c : He.SaysD fa fn K) : DefA K mg "dead_rooms" s_dead_rooms ["machine"] := by
  obtain ⟨fd, F⟩ := c.def_ 19 (d := d_dead_rooms) rfl
  exact ⟨_, fd, F, He.glo_ok X G (c.fact 19 (f := .glo "dead_rooms") rfl), FunD.bindsN F fun _ _ _ _ _ _ us hl => match us, hl with | [_], _ => rfl⟩
theorem da_sure_rooms (X : K.In h) (G : h.Ns mainGlobals mg) (c : He.SaysD fa fn K) : DefA K mg "sure_rooms" s_sure_rooms ["machine"] := by
  obtain ⟨fd, F⟩ := c.def_ 20 (d := d_sure_rooms) rfl
  exact ⟨_, fd, F, He.glo_ok X G (c.fact 20 (f := .glo "sure_rooms") rfl), FunD.bindsN F fun _ _ _ _ _ _ us hl => match us, hl with | [_], _ => rfl⟩
theorem da_is_whole (X : K.In h) (G : h.Ns mainGlobals mg) (c : He.SaysD fa fn K) : DefA K mg "is_whole" s_is_whole ["thing"] := by
  obtain ⟨fd, F⟩ := c.def_ 21 (d := d_is_whole) rfl
  exact ⟨_, fd, F, He.glo_ok X G (c.fact 21 (f := .glo "is_whole") rfl), FunD.bindsN F fun _ _ _ _ _ _ us hl => match us, hl with | [_], _ => rfl⟩
theorem da_is_step (X : K.In h) (G : h.Ns mainGlobals mg) (c : He.SaysD fa fn K) : DefA K mg "is_step" s_is_step ["thing", "many"] := by
  obtain ⟨fd, F⟩ := c.def_ 22 (d := d_is_step) rfl
  exact ⟨_, fd, F, He.glo_ok X G (c.fact 22 (f := .glo "is_step") rfl), FunD.bindsN F fun _ _ _ _ _ _ us hl => match us, hl with | [_, _], _ => rfl⟩
theorem da_are_steps (X : K.In h) (G : h.Ns mainGlobals mg) (c : He.SaysD fa fn K) : DefA K mg "are_steps" s_are_steps ["thing"] := by
  obtain ⟨fd, F⟩ := c.def_ 23 (d := d_are_steps) rfl
  exact ⟨_, fd, F, He.glo_ok X G (c.fact 23 (f := .glo "are_steps") rfl), FunD.bindsN F fun _ _ _ _ _ _ us hl => match us, hl with | [_], _ => rfl⟩
theorem da_are_ranks (X : K.In h) (G : h.Ns mainGlobals mg) (c : He.SaysD fa fn K) : DefA K mg "are_ranks" s_are_ranks ["thing", "many"] := by
  obtain ⟨fd, F⟩ := c.def_ 24 (d := d_are_ranks) rfl
  exact ⟨_, fd, F, He.glo_ok X G (c.fact 24 (f := .glo "are_ranks") rfl), FunD.bindsN F fun _ _ _ _ _ _ us hl => match us, hl with | [_, _], _ => rfl⟩
theorem da_law_cell (X : K.In h) (G : h.Ns mainGlobals mg) (c : He.SaysD fa fn K) : DefA K mg "_law_cell" s_law_cell ["_law_script", "_law_k"] := by
  obtain ⟨fd, F⟩ := c.def_ 25 (d := d_law_cell) rfl
  exact ⟨_, fd, F, He.glo_ok X G (c.fact 25 (f := .glo "_law_cell") rfl), FunD.bindsN F fun _ _ _ _ _ _ us hl => match us, hl with | [_, _], _ => rfl⟩
theorem da_law_mix (X : K.In h) (G : h.Ns mainGlobals mg) (c : He.SaysD fa fn K) : DefA K mg "_law_mix" s_law_mix ["_law_cell_here", "_law_k", "_law_many"] := by
  obtain ⟨fd, F⟩ := c.def_ 26 (d := d_law_mix) rfl
  exact ⟨_, fd, F, He.glo_ok X G (c.fact 26 (f := .glo "_law_mix") rfl), FunD.bindsN F fun _ _ _ _ _ _ us hl => match us, hl with | [_, _, _], _ => rfl⟩
theorem da_law_machine (X : K.In h) (G : h.Ns mainGlobals mg) (c : He.SaysD fa fn K) : DefA K mg "_law_machine" s_law_machine ["_law_script", "_law_at", "_law_most"] := by
  obtain ⟨fd, F⟩ := c.def_ 27 (d := d_law_machine) rfl
  exact ⟨_, fd, F, He.glo_ok X G (c.fact 27 (f := .glo "_law_machine") rfl), FunD.bindsN F fun _ _ _ _ _ _ us hl => match us, hl with | [_, _, _], _ => rfl⟩
theorem da_law_whole (X : K.In h) (G : h.Ns mainGlobals mg) (c : He.SaysD fa fn K) : DefA K mg "_law_whole" s_law_whole ["_law_found"] := by
  obtain ⟨fd, F⟩ := c.def_ 28 (d := d_law_whole) rfl
  exact ⟨_, fd, F, He.glo_ok X G (c.fact 28 (f := .glo "_law_whole") rfl), FunD.bindsN F fun _ _ _ _ _ _ us hl => match us, hl with | [_], _ => rfl⟩
theorem da_law_ahead (X : K.In h) (G : h.Ns mainGlobals mg) (c : He.SaysD fa fn K) : DefA K mg "_law_ahead" s_law_ahead ["_law_steps", "_law_bits", "_law_room"] := by
  obtain ⟨fd, F⟩ := c.def_ 29 (d := d_law_ahead) rfl
  exact ⟨_, fd, F, He.glo_ok X G (c.fact 29 (f := .glo "_law_ahead") rfl), FunD.bindsN F fun _ _ _ _ _ _ us hl => match us, hl with | [_, _, _], _ => rfl⟩
theorem da_law_is_loop (X : K.In h) (G : h.Ns mainGlobals mg) (c : He.SaysD fa fn K) : DefA K mg "_law_is_loop" s_law_is_loop ["_law_steps", "_law_bits"] := by
  obtain ⟨fd, F⟩ := c.def_ 30 (d := d_law_is_loop) rfl
  exact ⟨_, fd, F, He.glo_ok X G (c.fact 30 (f := .glo "_law_is_loop") rfl), FunD.bindsN F fun _ _ _ _ _ _ us hl => match us, hl with | [_, _], _ => rfl⟩
theorem da_law_loops (X : K.In h) (G : h.Ns mainGlobals mg) (c : He.SaysD fa fn K) : DefA K mg "_law_loops" s_law_loops ["_law_steps"] := by
  obtain ⟨fd, F⟩ := c.def_ 31 (d := d_law_loops) rfl
  exact ⟨_, fd, F, He.glo_ok X G (c.fact 31 (f := .glo "_law_loops") rfl), FunD.bindsN F fun _ _ _ _ _ _ us hl => match us, hl with | [_], _ => rfl⟩
theorem da_law_top (X : K.In h) (G : h.Ns mainGlobals mg) (c : He.SaysD fa fn K) : DefA K mg "_law_top" s_law_top ["_law_ranks", "_law_bits"] := by
  obtain ⟨fd, F⟩ := c.def_ 32 (d := d_law_top) rfl
  exact ⟨_, fd, F, He.glo_ok X G (c.fact 32 (f := .glo "_law_top") rfl), FunD.bindsN F fun _ _ _ _ _ _ us hl => match us, hl with | [_, _], _ => rfl⟩
theorem dm_need (c : He.SaysD fa fn K) : DefM K (He.ga K "Machine") "need" "Machine.need" m_need ["self", "room"] := by
  obtain ⟨fd, F⟩ := c.def_ 35 (d := e_need) rfl
  exact ⟨_, fd, [], [], F, He.meth_ok (c.fact 55 (f := .meth "Machine" "need") rfl), .nil, FunD.bindsN F fun _ _ _ _ _ _ us hl => match us, hl with | [_, _], _ => rfl⟩
theorem dm_along (c : He.SaysD fa fn K) : DefM K (He.ga K "Machine") "along" "Machine.along" m_along ["self", "room", "text"] := by
  obtain ⟨fd, F⟩ := c.def_ 36 (d := e_along) rfl
  exact ⟨_, fd, [], [], F, He.meth_ok (c.fact 56 (f := .meth "Machine" "along") rfl), .nil, FunD.bindsN F fun _ _ _ _ _ _ us hl => match us, hl with | [_, _, _], _ => rfl⟩
theorem dm_walk (c : He.SaysD fa fn K) : DefM K (He.ga K "Machine") "walk" "Machine.walk" m_walk ["self", "word", "room"] := by
  obtain ⟨fd, F⟩ := c.def_ 37 (d := e_walk) rfl
  obtain ⟨ds, hv, b⟩ := FunD.binds1 (ps := ["self", "word", "room"]) F 3 1 (by intro z; cases z) rfl fun T kV doc pm an cdv ct us its hl hl2 => match us, its, hl, hl2 with | [_, _, _], [_], _, _ => ⟨_, rfl, rfl⟩
  exact ⟨_, fd, _, ds, F, He.meth_ok (c.fact 57 (f := .meth "Machine" "walk") rfl), hv, b⟩
theorem dm_lets (c : He.SaysD fa fn K) : DefM K (He.ga K "Machine") "lets" "Machine.lets" m_lets ["self", "word", "room"] := by
  obtain ⟨fd, F⟩ := c.def_ 38 (d := e_lets) rfl
  obtain ⟨ds, hv, b⟩ := FunD.binds1 (ps := ["self", "word", "room"]) F 3 1 (by intro z; cases z) rfl fun T kV doc pm an cdv ct us its hl hl2 => match us, its, hl, hl2 with | [_, _, _], [_], _, _ => ⟨_, rfl, rfl⟩
  exact ⟨_, fd, _, ds, F, He.meth_ok (c.fact 58 (f := .meth "Machine" "lets") rfl), hv, b⟩
theorem mak {base : Heap} (X : K.In h) (G : h.Ns mainGlobals mg) (c : He.SaysD fa fn K) (AS : Cal P w K mg base 3 "are_steps" spAreSteps) (AR : Cal P w K mg base 2 "are_ranks" spAreRanks) : C8.Mak P w K mg base 4 "Machine" (He.ga K "Machine") (spInit (He.ga K "Machine")) [] := by
  obtain ⟨fd, F⟩ := c.def_ 34 (d := e_init) rfl
  exact ⟨_, fd, ["self", "steps", "ranks"], [], He.mkr_ok (c.fact 59 (f := .mkr "Machine") rfl), c_init (txt X G c) F AS AR, He.glo_ok X G (c.fact 34 (f := .glo "Machine") rfl), FunD.bindsN F fun _ _ _ _ _ _ us hl => match us, hl with | [_, _, _], _ => rfl, .nil⟩
theorem facts {f : Addr} (X : K.In h) (G : h.Ns mainGlobals mg) (hfa : mg ("law" : Str) = some (.ref f)) (c : He.SaysD fa fn K) :
    ∃ fd : FuncData, (∀ (s : Shared) (v : Value), BindsTo s fd ⟨[v], []⟩ [("_law_script", v)]) ∧ ∀ base : Heap, K.In base → base.Ns mainGlobals mg → FnOk P w K mg base C8.CX0 8 f fd ["_law_script"] (spLaw K) := by
  obtain ⟨fd, F⟩ := c.def_ 33 (d := d_law) rfl
  have e := hfa.symm.trans (He.glo_ok X G (c.fact 33 (f := .glo "law") rfl))
  cases e
  have T := txt X G c
  refine ⟨fd, fun s v => FunD.bindsA (ps := ["_law_script"]) F (fun _ _ _ _ _ _ us hl => match us, hl with | [_], _ => rfl) s [v] rfl, fun base _ _ => ?_⟩

  have h_bits_of := c_bits_of (P := P) (w := w) (base := base) (da_bits_of X G c)
  have h_rooms_of := c_rooms_of (P := P) (w := w) (base := base) (da_rooms_of X G c)
  have h_has_room := c_has_room (P := P) (w := w) (base := base) (da_has_room X G c)
  have h_every_room := c_every_room (P := P) (w := w) (base := base) T (da_every_room X G c)
  have h_spread := c_spread (P := P) (w := w) (base := base) T (da_spread X G c) h_has_room h_rooms_of
  have h_seen_from := c_seen_from (P := P) (w := w) (base := base) (da_seen_from X G c) h_spread h_every_room
  have h_beyond := c_beyond (P := P) (w := w) (base := base) T (da_beyond X G c) h_spread h_bits_of
  have h_reaching := c_reaching (P := P) (w := w) (base := base) T (da_reaching X G c) h_seen_from
  have h_loop_parts := c_loop_parts (P := P) (w := w) (base := base) (da_loop_parts X G c) h_has_room h_rooms_of h_bits_of h_beyond
  have h_is_loop := c_is_loop (P := P) (w := w) (base := base) (da_is_loop X G c) h_loop_parts
  have h_top_rank := c_top_rank (P := P) (w := w) (base := base) T (da_top_rank X G c) h_rooms_of
  have h_up_to_rank := c_up_to_rank (P := P) (w := w) (base := base) T (da_up_to_rank X G c) h_rooms_of h_bits_of
  have h_parts_of_rank := c_parts_of_rank (P := P) (w := w) (base := base) (da_parts_of_rank X G c) h_loop_parts h_up_to_rank h_top_rank
  have h_rooms_on_loops := c_rooms_on_loops (P := P) (w := w) (base := base) T (da_rooms_on_loops X G c) h_parts_of_rank h_every_room
  have h_dead_rooms := c_dead_rooms (P := P) (w := w) (base := base) (da_dead_rooms X G c) h_rooms_on_loops h_reaching h_every_room
  have h_sure_rooms := c_sure_rooms (P := P) (w := w) (base := base) (da_sure_rooms X G c) h_rooms_on_loops h_reaching h_every_room
  have h_is_word := c_is_word (P := P) (w := w) (base := base) T (da_is_word X G c)
  have h_is_endless := c_is_endless (P := P) (w := w) (base := base) T (da_is_endless X G c) h_is_word
  have h_way_in := c_way_in (P := P) (w := w) (base := base) T (da_way_in X G c) h_has_room
  have h_turning_letter := c_turning_letter (P := P) (w := w) (base := base) T (da_turning_letter X G c)
  have h_round_in := c_round_in (P := P) (w := w) (base := base) T (da_round_in X G c) h_has_room h_is_loop h_turning_letter h_rooms_of h_way_in
  have h_is_whole := c_is_whole (P := P) (w := w) (base := base) T (da_is_whole X G c)
  have h_is_step := c_is_step (P := P) (w := w) (base := base) T (da_is_step X G c) h_is_whole
  have h_are_steps := c_are_steps (P := P) (w := w) (base := base) T (da_are_steps X G c) h_is_step
  have h_are_ranks := c_are_ranks (P := P) (w := w) (base := base) T (da_are_ranks X G c) h_is_whole
  have h_need := c_need (P := P) (w := w) (base := base) T (dm_need c) h_is_whole
  have h_along := c_along (P := P) (w := w) (base := base) T (dm_along c)
  have h_walk := c_walk (P := P) (w := w) (base := base) T (dm_walk c) h_need h_is_endless h_along
  have h_lets := c_lets (P := P) (w := w) (base := base) T (dm_lets c) h_walk
  have h_law_cell := c_cell (P := P) (w := w) (base := base) T (da_law_cell X G c)
  have h_law_mix := c_mix (P := P) (w := w) (base := base) (da_law_mix X G c)
  have h_law_whole := c_lwhole (P := P) (w := w) (base := base) T (da_law_whole X G c)
  have h_law_ahead := c_lahead (P := P) (w := w) (base := base) T (da_law_ahead X G c)
  have h_law_is_loop := c_lisloop (P := P) (w := w) (base := base) T (da_law_is_loop X G c) h_law_ahead
  have h_law_loops := c_lloops (P := P) (w := w) (base := base) T (da_law_loops X G c) h_law_is_loop
  have h_law_top := c_ltop (P := P) (w := w) (base := base) T (da_law_top X G c)
  have h_law_machine := c_lmachine (P := P) (w := w) (base := base) T (da_law_machine X G c) h_law_cell h_law_mix
  have h_mak := mak (P := P) (w := w) (base := base) X G c h_are_steps h_are_ranks
  exact c_law T F h_law_cell h_law_mix h_law_machine h_law_whole h_law_ahead h_law_loops h_law_top h_mak h_way_in h_round_in h_lets h_dead_rooms h_sure_rooms
end
end Lr
open PySem PySem.W PySem.Calls PyProof.Rows
theorem PySem.Challenge.cw_looprank_k25_dead_and_sure_holds : PySem.Challenge.rw_looprank_k25_dead_and_sure.Holds := by
  w_on; o_law
  refine HandSHeadRun.head_any (r := OpenLaw.row PySem.Challenge.rw_looprank_k25_dead_and_sure) (q := view (OpenLaw.row PySem.Challenge.rw_looprank_k25_dead_and_sure).prog [47]) (H := Lr.hk) (ob := Lr.ob) (M := 3000) (loose := Lr.nms) (d := HandSHeadRun.topDef (OpenLaw.row PySem.Challenge.rw_looprank_k25_dead_and_sure).prog 47) (kwd := []) Lr.ob_eq
    (by kernel_rfl) (fun s => by kernel_rfl) Lr.run (by kernel_rfl) (by kernel_rfl) (by kernel_rfl) (by rfl) (by first | assumption | decide +kernel) (by decide +kernel) ⟨rfl, rfl, rfl, rfl, rfl, by decide +kernel⟩ ?hw ?hc
  case hw => w_witness2
  case hc =>
    refine L2.walk_ofE (l := PySem.Challenge.rw_looprank_k25_dead_and_sure) (n := 63) (k := 8) (x := "_law_script") (CX := C8.CX0) rfl (by decide) (by kernel_rfl) ⟨rfl, by decide, by decide⟩ ?F (fun _ _ _ _ z => z)
    intro w mg fa h Y G hmg0
    obtain ⟨K, KX, c⟩ := Y
    have hmg : mg ("law" : PySem.Str) = some (.ref fa) := by
      have e : (HandSHeadRun.topDef (OpenLaw.row PySem.Challenge.rw_looprank_k25_dead_and_sure).prog 47).name = ("law" : PySem.Str) := by kernel_rfl
      rw [← e]
      exact hmg0
    obtain ⟨fd, hb, hF⟩ := Lr.facts (P := (PySem.Challenge.rw_looprank_k25_dead_and_sure).prog) (w := w) KX G hmg c
    exact ⟨K, fd, Lr.spLaw K, KX, hb, fun H a ns hl _ hS => ⟨a, ns, rfl, hS, fun _ => rfl⟩, hF⟩

