import PyProof.Rows.All
import Wide.All
import OpenK.AllK
import Wide.FinOn
import HandS.ForMost
import HandS.Defaults
import HandS.Deep
import HandS.IsInst
import HandS.Wide
import HandS.WideBits
import HandS.SortInts
import HandS.Strs
import HandS.SetFor
import HandS.Zip
import HandS.Lambda
import HandS.EndTab
import HandS.HeadWalk
import HandS.HeadHook4
import HandS.SortKw
import KE.SortData
import PySem.Challenge.RW_crossracks_k16_whole_paper_of_ways
import HandS.Walk
import HandS.Evl
import KE.DataMinKey
import HandS.Head0
import HandS.Head1
import HandS.Head2
set_option autoImplicit false
set_option linter.all false
/-! Halls, calls, lines: the plain law, with no program in sight. -/
namespace Xr

/-! ### lists -/
theorem eq_of_strict {α : Type} {r : α → α → Prop} (tr : ∀ a b c, r a b → r b c → r a c) (ir : ∀ a, ¬ r a a) :
    ∀ {l m : List α}, l.Pairwise r → m.Pairwise r → (∀ x, x ∈ l ↔ x ∈ m) → l = m
  | [], [], _, _, _ => rfl
  | [], b :: m, _, _, h => absurd ((h b).2 List.mem_cons_self) (by simp)
  | a :: l, [], _, _, h => absurd ((h a).1 List.mem_cons_self) (by simp)
  | a :: l, b :: m, p, q, h => by
    obtain ⟨p1, p2⟩ := List.pairwise_cons.mp p
    obtain ⟨q1, q2⟩ := List.pairwise_cons.mp q
    have e : a = b := by
      rcases List.mem_cons.mp ((h a).1 List.mem_cons_self) with e | ha
      · exact e
      · rcases List.mem_cons.mp ((h b).2 List.mem_cons_self) with e | hb
        · exact e.symm
        · exact absurd (tr _ _ _ (p1 b hb) (q1 a ha)) (ir a)
    subst e
    have t : l = m := eq_of_strict tr ir p2 q2 fun x => by
      constructor
      · intro hx
        rcases List.mem_cons.mp ((h x).1 (List.mem_cons_of_mem _ hx)) with e | hm
        · exact absurd (p1 x hx) (by rw [e]; exact ir a)
        · exact hm
      · intro hx
        rcases List.mem_cons.mp ((h x).2 (List.mem_cons_of_mem _ hx)) with e | hm
        · exact absurd (q1 x hx) (by rw [e]; exact ir a)
        · exact hm
    rw [t]

theorem pigeon {α : Type} [DecidableEq α] : ∀ {l m : List α}, l.Nodup → (∀ x, x ∈ l → x ∈ m) → l.length ≤ m.length
  | [], _, _, _ => Nat.zero_le _
  | a :: l, m, nd, h => by
    obtain ⟨n1, n2⟩ := List.nodup_cons.mp nd
    have ha : a ∈ m := h a List.mem_cons_self
    have ih : l.length ≤ (m.erase a).length := pigeon n2 fun x hx => by
      have ne : x ≠ a := fun e => n1 (e ▸ hx)
      exact (List.mem_erase_of_ne ne).2 (h x (List.mem_cons_of_mem _ hx))
    have hl := List.length_erase_of_mem ha
    have hp : 0 < m.length := List.length_pos_of_mem ha
    rw [List.length_cons]
    omega

theorem nodup_of_lt {l : List Nat} (h : l.Pairwise (· < ·)) : l.Nodup :=
  h.imp fun {a b} hab e => by omega

theorem filter_len_lt {α : Type} {p : α → Bool} : ∀ {l : List α} {x : α}, x ∈ l → p x = false → (l.filter p).length < l.length
  | a :: l, x, hx, hp => by
    rcases List.mem_cons.mp hx with e | hx
    · subst e
      rw [List.filter_cons_of_neg (by rw [hp]; exact Bool.false_ne_true)]
      exact Nat.lt_succ_of_le (List.length_filter_le _ _)
    · have ih := filter_len_lt hx hp
      rw [List.filter_cons]
      split
      · rw [List.length_cons, List.length_cons]; omega
      · rw [List.length_cons]; omega

theorem sum_more {α β : Type} (q : β → α → Bool) (x : α) (l : List α) : ∀ rs : List β,
    (rs.map fun r => ((x :: l).filter (q r)).length).sum = (rs.map fun r => (l.filter (q r)).length).sum + (rs.filter fun r => q r x).length
  | [] => rfl
  | r :: rs => by
    rw [List.map_cons, List.sum_cons, sum_more q x l rs, List.map_cons, List.sum_cons, List.filter_cons, List.filter_cons]
    by_cases h : q r x = true
    · rw [if_pos h, if_pos h, List.length_cons, List.length_cons]; omega
    · rw [if_neg h, if_neg h]; omega

theorem cover {α β : Type} (p : α → Bool) (q : β → α → Bool) (rs : List β) : ∀ l : List α, (∀ x, x ∈ l → p x = true ∨ ∃ r, r ∈ rs ∧ q r x = true) →
    l.length ≤ (l.filter p).length + (rs.map fun r => (l.filter (q r)).length).sum
  | [], _ => Nat.zero_le _
  | x :: l, h => by
    have ih := cover p q rs l fun y hy => h y (List.mem_cons_of_mem _ hy)
    rw [sum_more]
    rcases h x List.mem_cons_self with hx | ⟨r, hr, hq⟩
    · rw [List.filter_cons_of_pos hx, List.length_cons, List.length_cons]; omega
    · have : 0 < (rs.filter fun r => q r x).length := List.length_pos_of_mem (List.mem_filter.mpr ⟨hr, hq⟩)
      have h2 : (l.filter p).length ≤ ((x :: l).filter p).length := by
        rw [List.filter_cons]
        split
        · rw [List.length_cons]; omega
        · exact Nat.le_refl _
      rw [List.length_cons]; omega

theorem mem_take_succ {α : Type} {l : List α} {i : Nat} {x : α} (h : l[i]? = some x) (y : α) : y ∈ l.take (i + 1) ↔ y ∈ l.take i ∨ y = x := by
  rw [List.take_add_one, h]
  simp

/-! ### halls -/
structure Hall where
  ins : Nat
  cal : Nat
  amid : Nat
  outs : Nat
  ends : Nat
structure HallOk (h : Hall) : Prop where
  i1 : 1 ≤ h.ins
  i2 : h.ins ≤ 12
  c1 : 1 ≤ h.cal
  c2 : h.cal ≤ 12
  a1 : 1 ≤ h.amid
  a2 : h.amid ≤ 24
  o1 : 1 ≤ h.outs
  o2 : h.outs ≤ 12
  e1 : 1 ≤ h.ends
  e2 : h.ends ≤ 12
/-- a call -/
structure Cl where
  c : Nat
  es : List Nat
  k : Nat

/-! ### racks of ends -/
def racksOf (h : Hall) (es : List Nat) : List Nat := (List.range h.outs).filter fun r => es.any fun e => e / h.ends == r
def EndsIn (h : Hall) (es : List Nat) : Prop := ∀ e, e ∈ es → e < h.outs * h.ends
theorem racks_lt {h : Hall} {es : List Nat} {r : Nat} (hr : r ∈ racksOf h es) : r < h.outs := List.mem_range.mp (List.mem_filter.mp hr).1
theorem mem_racks {h : Hall} (H : HallOk h) {es : List Nat} (he : EndsIn h es) {r : Nat} : r ∈ racksOf h es ↔ ∃ e, e ∈ es ∧ e / h.ends = r := by
  constructor
  · intro hr
    obtain ⟨e, he, q⟩ := List.any_eq_true.mp (List.mem_filter.mp hr).2
    exact ⟨e, he, beq_iff_eq.mp q⟩
  · rintro ⟨e, hm, rfl⟩
    refine List.mem_filter.mpr ⟨List.mem_range.mpr ?_, List.any_eq_true.mpr ⟨e, hm, beq_self_eq_true _⟩⟩
    exact Nat.div_lt_of_lt_mul (by rw [Nat.mul_comm]; exact he e hm)
theorem racks_strict (h : Hall) (es : List Nat) : (racksOf h es).Pairwise (· < ·) := List.Pairwise.filter _ List.pairwise_lt_range
theorem racks_len {h : Hall} (H : HallOk h) (es : List Nat) : (racksOf h es).length ≤ 12 := by
  have h1 := List.length_filter_le (fun r => es.any fun e => e / h.ends == r) (List.range h.outs)
  rw [List.length_range] at h1
  have := H.o2
  show (List.filter _ _).length ≤ 12
  omega

/-- what racks_of has found behind i of the sorted ends -/
structure Ded (h : Hall) (s : List Nat) (i : Nat) (f : List Nat) : Prop where
  st : f.Pairwise (· < ·)
  mem : ∀ r, r ∈ f ↔ ∃ e, e ∈ s.take i ∧ e / h.ends = r
theorem Ded.zero (h : Hall) (s : List Nat) : Ded h s 0 [] := ⟨List.Pairwise.nil, fun r => by simp⟩
theorem Ded.len {h : Hall} {s : List Nat} {i : Nat} {f : List Nat} (d : Ded h s i f) : f.length ≤ i := by
  have h1 : f.length ≤ ((s.take i).map (· / h.ends)).length := pigeon (nodup_of_lt d.st) fun x hx => by
    obtain ⟨e, he, q⟩ := (d.mem x).1 hx
    exact List.mem_map.mpr ⟨e, he, q⟩
  rw [List.length_map, List.length_take] at h1
  exact Nat.le_trans h1 (Nat.min_le_left _ _)
theorem take_le {s : List Nat} (hs : s.Pairwise (· ≤ ·)) {i x : Nat} (hx : s[i]? = some x) {e : Nat} (he : e ∈ s.take i) : e ≤ x := by
  obtain ⟨j, hj, q⟩ := List.mem_iff_getElem.mp he
  rw [List.length_take] at hj
  obtain ⟨hi, q2⟩ := List.getElem?_eq_some_iff.mp hx
  rw [List.getElem_take] at q
  rw [← q, ← q2]
  exact List.pairwise_iff_getElem.mp hs j i (by omega) hi (by omega)
theorem Ded.skip {h : Hall} {s : List Nat} {i x : Nat} {f : List Nat} (d : Ded h s i f) (hx : s[i]? = some x) (hl : f.getLast? = some (x / h.ends)) : Ded h s (i + 1) f := by
  refine ⟨d.st, fun r => ?_⟩
  rw [d.mem r]
  constructor
  · rintro ⟨e, he, q⟩
    exact ⟨e, (mem_take_succ hx e).2 (.inl he), q⟩
  · rintro ⟨e, he, q⟩
    rcases (mem_take_succ hx e).1 he with he | he
    · exact ⟨e, he, q⟩
    · subst he
      rw [← q]
      exact (d.mem _).1 (List.mem_of_getLast? hl)
theorem Ded.more {h : Hall} {s : List Nat} (hs : s.Pairwise (· ≤ ·)) {i x : Nat} {f : List Nat} (d : Ded h s i f) (hx : s[i]? = some x) (hl : f.getLast? ≠ some (x / h.ends)) : Ded h s (i + 1) (f ++ [x / h.ends]) := by
  have le : ∀ r, r ∈ f → r ≤ x / h.ends := fun r hr => by
    obtain ⟨e, he, q⟩ := (d.mem r).1 hr
    rw [← q]
    exact Nat.div_le_div_right (take_le hs hx he)
  have lt : ∀ r, r ∈ f → r < x / h.ends := fun r hr => by
    have hne : f ≠ [] := List.ne_nil_of_mem hr
    have hlast := List.getLast?_eq_some_getLast hne
    have h1 : f.getLast hne ≤ x / h.ends := le _ (List.getLast_mem hne)
    have h2 : f.getLast hne ≠ x / h.ends := fun e => hl (by rw [hlast, e])
    have h3 : r ≤ f.getLast hne := by
      have hd := List.dropLast_concat_getLast hne
      rw [← hd] at hr
      rcases List.mem_append.mp hr with hr | hr
      · have hp := d.st
        rw [← hd] at hp
        exact Nat.le_of_lt ((List.pairwise_append.mp hp).2.2 r hr _ (List.mem_singleton.mpr rfl))
      · rw [List.mem_singleton.mp hr]
        exact Nat.le_refl _
    omega
  refine ⟨List.pairwise_append.mpr ⟨d.st, List.pairwise_singleton _ _, fun a ha b hb => by rw [List.mem_singleton.mp hb]; exact lt a ha⟩, fun r => ?_⟩
  rw [List.mem_append, d.mem r, List.mem_singleton]
  constructor
  · rintro (⟨e, he, q⟩ | q)
    · exact ⟨e, (mem_take_succ hx e).2 (.inl he), q⟩
    · exact ⟨x, (mem_take_succ hx x).2 (.inr rfl), q.symm⟩
  · rintro ⟨e, he, q⟩
    rcases (mem_take_succ hx e).1 he with he | he
    · exact .inl ⟨e, he, q⟩
    · subst he
      exact .inr q.symm
theorem Ded.done {h : Hall} (H : HallOk h) {s es : List Nat} {f : List Nat} (he : EndsIn h es) (d : Ded h s s.length f) (p : ∀ e, e ∈ s ↔ e ∈ es) : f = racksOf h es := by
  refine eq_of_strict (r := fun a b => a < b) (fun a b c => Nat.lt_trans) (fun a => Nat.lt_irrefl a) d.st (racks_strict h es) fun r => ?_
  rw [d.mem r, mem_racks H he, List.take_length]
  constructor
  · rintro ⟨e, h1, h2⟩
    exact ⟨e, (p e).1 h1, h2⟩
  · rintro ⟨e, h1, h2⟩
    exact ⟨e, (p e).2 h1, h2⟩

/-! ### bits -/
theorem tb_fold {α : Type} (p : α → Bool) (k : α → Nat) (j : Nat) : ∀ (l : List α) (a : Nat), (l.foldl (fun a d => if p d = true then a ||| 2 ^ k d else a) a).testBit j = (a.testBit j || l.any fun d => p d && k d == j)
  | [], a => by simp
  | d :: l, a => by
    rw [List.foldl_cons, tb_fold p k j l, List.any_cons]
    by_cases h : p d = true
    · rw [if_pos h, Nat.testBit_or, Nat.testBit_two_pow, h]
      have e : decide (k d = j) = (k d == j) := by
        rw [Bool.eq_iff_iff, decide_eq_true_eq, beq_iff_eq]
      rw [e, Bool.true_and, Bool.or_assoc]
    · have h' : p d = false := by simpa using h
      rw [if_neg h, h']
      simp
theorem tb_ors {α : Type} (f : α → Nat) (j : Nat) : ∀ (l : List α) (a : Nat), (l.foldl (fun a r => a ||| f r) a).testBit j = (a.testBit j || l.any fun r => (f r).testBit j)
  | [], a => by simp
  | d :: l, a => by
    rw [List.foldl_cons, tb_ors f j l, List.any_cons, Nat.testBit_or, Bool.or_assoc]

def inP (h : Hall) (i : Nat) (d : Cl) : Bool := d.c / h.cal == i
def outP (h : Hall) (r : Nat) (d : Cl) : Bool := (racksOf h d.es).contains r
def bitsOf (p : Cl → Bool) (cs : List Cl) : Nat := cs.foldl (fun a d => if p d = true then a ||| 2 ^ d.k else a) 0
theorem bits_nil (p : Cl → Bool) : bitsOf p [] = 0 := rfl
theorem bits_snoc (p : Cl → Bool) (cs : List Cl) (d : Cl) : bitsOf p (cs ++ [d]) = if p d = true then bitsOf p cs ||| 2 ^ d.k else bitsOf p cs := by
  unfold bitsOf
  rw [List.foldl_append]
  rfl
theorem bits_at (p : Cl → Bool) (cs : List Cl) (j : Nat) : (bitsOf p cs).testBit j = cs.any fun d => p d && d.k == j := by
  unfold bitsOf
  rw [tb_fold]
  simp
def onLine (p : Cl → Bool) (cs : List Cl) (k : Nat) : Bool := cs.any fun d => p d && d.k == k

/-! ### holders, ways -/
def meets (h : Hall) (d : Cl) (c : Nat) (es : List Nat) : Bool := inP h (c / h.cal) d || (racksOf h es).any fun r => outP h r d
def kept (h : Hall) (cs : List Cl) (c : Nat) (es : List Nat) (k : Nat) : List Nat := (cs.filter fun d => d.k == k && meets h d c es).map (·.c)
def free (h : Hall) (cs : List Cl) (c : Nat) (es : List Nat) (shut : Nat) : List Nat := (List.range h.amid).filter fun k => !shut.testBit k && (kept h cs c es k).isEmpty
def mask (h : Hall) (cs : List Cl) (c : Nat) (es : List Nat) (shut : Nat) : Nat := (racksOf h es).foldl (fun a r => a ||| bitsOf (outP h r) cs) (shut ||| bitsOf (inP h (c / h.cal)) cs)
theorem kept_empty {h : Hall} {cs : List Cl} {c : Nat} {es : List Nat} {k : Nat} : (kept h cs c es k).isEmpty = !(onLine (inP h (c / h.cal)) cs k || (racksOf h es).any fun r => onLine (outP h r) cs k) := by
  rw [Bool.eq_iff_iff]
  unfold kept
  rw [List.isEmpty_iff, List.map_eq_nil_iff, List.filter_eq_nil_iff, Bool.not_eq_true', Bool.or_eq_false_iff]
  unfold onLine meets
  constructor
  · intro hk
    refine ⟨List.any_eq_false.mpr fun d hd z => ?_, List.any_eq_false.mpr fun r hr z => ?_⟩
    · obtain ⟨z1, z2⟩ := Bool.and_eq_true_iff.mp z
      exact hk d hd (by rw [z2, z1]; rfl)
    · obtain ⟨d, hd, z⟩ := List.any_eq_true.mp z
      obtain ⟨z1, z2⟩ := Bool.and_eq_true_iff.mp z
      exact hk d hd (by rw [z2, Bool.true_and, Bool.or_eq_true]; exact .inr (List.any_eq_true.mpr ⟨r, hr, z1⟩))
  · rintro ⟨h1, h2⟩ d hd z
    obtain ⟨z1, z2⟩ := Bool.and_eq_true_iff.mp z
    rcases Bool.or_eq_true_iff.mp z2 with z2 | z2
    · exact List.any_eq_false.mp h1 d hd (by rw [z1, z2]; rfl)
    · obtain ⟨r, hr, z3⟩ := List.any_eq_true.mp z2
      exact List.any_eq_false.mp h2 r hr (List.any_eq_true.mpr ⟨d, hd, by rw [z1, z3]; rfl⟩)
theorem mask_bit {h : Hall} {cs : List Cl} {c : Nat} {es : List Nat} {shut k : Nat} : (!(mask h cs c es shut).testBit k) = (!shut.testBit k && (kept h cs c es k).isEmpty) := by
  unfold mask
  rw [tb_ors, Nat.testBit_or, bits_at, kept_empty]
  simp only [bits_at]
  show (!((shut.testBit k || onLine _ cs k) || _)) = _
  unfold onLine
  cases shut.testBit k <;> simp [Bool.not_or]
theorem mem_free {h : Hall} {cs : List Cl} {c : Nat} {es : List Nat} {shut k : Nat} : k ∈ free h cs c es shut ↔ k < h.amid ∧ shut.testBit k = false ∧ kept h cs c es k = [] := by
  unfold free
  rw [List.mem_filter, List.mem_range, Bool.and_eq_true, Bool.not_eq_true', List.isEmpty_iff]
theorem free_strict (h : Hall) (cs : List Cl) (c : Nat) (es : List Nat) (shut : Nat) : (free h cs c es shut).Pairwise (· < ·) := List.Pairwise.filter _ List.pairwise_lt_range

/-! ### lines -/
inductive T where
  | cal (c : Nat)
  | en (e : Nat)
  | li (out : Bool) (r k : Nat)
  deriving DecidableEq
def IsLine (h : Hall) (c : Nat) (es : List Nat) (k : Nat) (t : T) : Prop := t = .li false (c / h.cal) k ∨ ∃ e, e ∈ es ∧ t = .li true (e / h.ends) k
def IsTaken (h : Hall) (d : Cl) (t : T) : Prop := t = .cal d.c ∨ (∃ e, e ∈ d.es ∧ t = .en e) ∨ IsLine h d.c d.es d.k t
theorem meets_iff {h : Hall} (H : HallOk h) {d : Cl} {c : Nat} {es : List Nat} {k : Nat} (hd : EndsIn h d.es) (he : EndsIn h es) :
    (∃ t, IsLine h d.c d.es d.k t ∧ IsLine h c es k t) ↔ (d.k == k && meets h d c es) = true := by
  rw [Bool.and_eq_true]
  unfold meets
  rw [Bool.or_eq_true, beq_iff_eq]
  constructor
  · rintro ⟨t, a, b⟩
    rcases a with a | ⟨e, he1, a⟩
    · rcases b with b | ⟨e', _, b⟩
      · rw [a] at b
        injection b with _ b1 b2
        exact ⟨b2, .inl (beq_iff_eq.mpr b1)⟩
      · rw [a] at b
        injection b with b0
        cases b0
    · rcases b with b | ⟨e', he', b⟩
      · rw [a] at b
        injection b with b0
        cases b0
      · rw [a] at b
        injection b with _ b1 b2
        refine ⟨b2, .inr (List.any_eq_true.mpr ⟨e' / h.ends, (mem_racks H he).2 ⟨e', he', rfl⟩, ?_⟩)⟩
        unfold outP
        rw [List.contains_iff_mem]
        exact (mem_racks H hd).2 ⟨e, he1, b1⟩
  · rintro ⟨rfl, b | b⟩
    · exact ⟨_, .inl rfl, .inl (by rw [beq_iff_eq.mp b])⟩
    · obtain ⟨r, hr, z⟩ := List.any_eq_true.mp b
      unfold outP at z
      rw [List.contains_iff_mem] at z
      obtain ⟨e, h1, q1⟩ := (mem_racks H hd).1 z
      obtain ⟨e', h2, q2⟩ := (mem_racks H he).1 hr
      exact ⟨_, .inr ⟨e, h1, rfl⟩, .inr ⟨e', h2, by rw [q1, q2]⟩⟩

/-! ### right calls -/
structure ClOk (h : Hall) (d : Cl) : Prop where
  c : d.c < h.ins * h.cal
  es : EndsIn h d.es
  k : d.k < h.amid
  few : d.es.length ≤ 12
def Apart (h : Hall) (a b : Cl) : Prop := ∀ t, IsLine h a.c a.es a.k t → ¬ IsLine h b.c b.es b.k t
structure Right (h : Hall) (cs : List Cl) : Prop where
  st : cs.Pairwise fun a b => a.c < b.c
  ok : ∀ d, d ∈ cs → ClOk h d
  ap : cs.Pairwise (Apart h)
theorem Right.nil (h : Hall) : Right h [] := ⟨List.Pairwise.nil, fun d hd => by simp at hd, List.Pairwise.nil⟩
theorem Right.sub {h : Hall} {cs ds : List Cl} (R : Right h cs) (s : ds.Sublist cs) : Right h ds := ⟨R.st.sublist s, fun d hd => R.ok d (s.subset hd), R.ap.sublist s⟩
theorem Apart.symm {h : Hall} {a b : Cl} (x : Apart h a b) : Apart h b a := fun t h1 h2 => x t h2 h1
theorem Right.add {h : Hall} {cs ds : List Cl} {n : Cl} (R : Right h cs) (hn : ClOk h n) (hf : ∀ t, IsTaken h n t → ∀ d, d ∈ cs → ¬ IsTaken h d t)
    (p : ds.Perm (cs ++ [n])) (s : ds.Pairwise fun a b => a.c ≤ b.c) : Right h ds := by
  have ne : ∀ d, d ∈ cs → d.c ≠ n.c := fun d hd e => hf (.cal n.c) (.inl rfl) d hd (.inl (by rw [e]))
  have nd : ds.Pairwise fun a b => a.c ≠ b.c := by
    refine (p.pairwise_iff (fun {x y} (z : x.c ≠ y.c) => z.symm)).2 (List.pairwise_append.mpr ⟨R.st.imp fun {a b} z => Nat.ne_of_lt z, List.pairwise_singleton _ _, fun a ha b hb => ?_⟩)
    rw [List.mem_singleton.mp hb]
    exact ne a ha
  refine ⟨?_, fun d hd => ?_, (p.pairwise_iff (fun {x y} z => Apart.symm z)).2 (List.pairwise_append.mpr ⟨R.ap, List.pairwise_singleton _ _, fun a ha b hb => ?_⟩)⟩
  · exact (s.and nd).imp fun {a b} z => Nat.lt_of_le_of_ne z.1 z.2
  · rcases List.mem_append.mp (p.mem_iff.mp hd) with hd | hd
    · exact R.ok d hd
    · rw [List.mem_singleton.mp hd]
      exact hn
  · rw [List.mem_singleton.mp hb]
    exact fun t h1 h2 => hf t (.inr (.inr h2)) a ha (.inr (.inr h1))
theorem Right.callers {h : Hall} {cs : List Cl} (R : Right h cs) : (cs.map (·.c)).Pairwise (· < ·) := List.pairwise_map.mpr R.st
theorem Right.kept_strict {h : Hall} {cs : List Cl} (R : Right h cs) (c : Nat) (es : List Nat) (k : Nat) : (kept h cs c es k).Pairwise (· < ·) :=
  (R.sub List.filter_sublist).callers

/-- what the dict of held lines tells -/
def Looks (h : Hall) (cs : List Cl) (look : T → Option Nat) : Prop := ∀ t v, look t = some v ↔ ∃ d, d ∈ cs ∧ IsLine h d.c d.es d.k t ∧ v = d.c
theorem mem_kept {h : Hall} (H : HallOk h) {cs : List Cl} (R : Right h cs) {look : T → Option Nat} (L : Looks h cs look) {c : Nat} {es : List Nat} {k : Nat} (he : EndsIn h es) (v : Nat) :
    v ∈ kept h cs c es k ↔ ∃ t, IsLine h c es k t ∧ look t = some v := by
  unfold kept
  rw [List.mem_map]
  constructor
  · rintro ⟨d, hd, rfl⟩
    obtain ⟨hd, hm⟩ := List.mem_filter.mp hd
    obtain ⟨t, h1, h2⟩ := (meets_iff H (R.ok d hd).es he).2 hm
    exact ⟨t, h2, (L t d.c).2 ⟨d, hd, h1, rfl⟩⟩
  · rintro ⟨t, h1, h2⟩
    obtain ⟨d, hd, h3, h4⟩ := (L t v).1 h2
    exact ⟨d, List.mem_filter.mpr ⟨hd, (meets_iff H (R.ok d hd).es he).1 ⟨t, h3, h1⟩⟩, h4.symm⟩
theorem look_some {h : Hall} {cs : List Cl} {look : T → Option Nat} (L : Looks h cs look) {t : T} : (look t).isSome = true ↔ ∃ d, d ∈ cs ∧ IsLine h d.c d.es d.k t := by
  rw [Option.isSome_iff_exists]
  constructor
  · rintro ⟨v, e⟩
    obtain ⟨d, hd, h1, _⟩ := (L t v).1 e
    exact ⟨d, hd, h1⟩
  · rintro ⟨d, hd, h1⟩
    exact ⟨d.c, (L t d.c).2 ⟨d, hd, h1, rfl⟩⟩
theorem look_in {h : Hall} {cs : List Cl} {look : T → Option Nat} (L : Looks h cs look) (r k : Nat) : (look (.li false r k)).isSome = onLine (inP h r) cs k := by
  rw [Bool.eq_iff_iff, look_some L]
  unfold onLine
  rw [List.any_eq_true]
  constructor
  · rintro ⟨d, hd, h1 | ⟨e, _, h1⟩⟩
    · injection h1 with _ h2 h3
      refine ⟨d, hd, ?_⟩
      unfold inP
      rw [h2, h3, beq_self_eq_true, beq_self_eq_true]
      rfl
    · injection h1 with h0
      cases h0
  · rintro ⟨d, hd, z⟩
    obtain ⟨z1, z2⟩ := Bool.and_eq_true_iff.mp z
    unfold inP at z1
    exact ⟨d, hd, .inl (by rw [beq_iff_eq.mp z1, beq_iff_eq.mp z2])⟩
theorem look_out {h : Hall} (H : HallOk h) {cs : List Cl} (R : Right h cs) {look : T → Option Nat} (L : Looks h cs look) (r k : Nat) : (look (.li true r k)).isSome = onLine (outP h r) cs k := by
  rw [Bool.eq_iff_iff, look_some L]
  unfold onLine
  rw [List.any_eq_true]
  constructor
  · rintro ⟨d, hd, h1 | ⟨e, he, h1⟩⟩
    · injection h1 with h0
      cases h0
    · injection h1 with _ h2 h3
      refine ⟨d, hd, ?_⟩
      unfold outP
      rw [Bool.and_eq_true, List.contains_iff_mem]
      exact ⟨(mem_racks H (R.ok d hd).es).2 ⟨e, he, h2.symm⟩, by rw [h3]; exact beq_self_eq_true _⟩
  · rintro ⟨d, hd, z⟩
    obtain ⟨z1, z2⟩ := Bool.and_eq_true_iff.mp z
    unfold outP at z1
    rw [List.contains_iff_mem] at z1
    obtain ⟨e, he, q⟩ := (mem_racks H (R.ok d hd).es).1 z1
    exact ⟨d, hd, .inr ⟨e, he, by rw [q, beq_iff_eq.mp z2]⟩⟩

/-! ### calls ended -/
def left (cs : List Cl) (gone : List Nat) : List Cl := cs.filter fun d => !gone.contains d.c
theorem kept_left {h : Hall} {cs : List Cl} {gone : List Nat} {c : Nat} {es : List Nat} {k : Nat} : kept h (left cs gone) c es k = (kept h cs c es k).filter fun v => !gone.contains v := by
  unfold kept left
  rw [List.filter_map, List.filter_filter, List.filter_filter]
  congr 1
  refine List.filter_congr fun d _ => ?_
  rw [Bool.and_comm]
  rfl
theorem free_gone {h : Hall} {cs : List Cl} {c : Nat} {es : List Nat} {shut b : Nat} (hb : b < h.amid) (ho : shut.testBit b = false) : free h (left cs (kept h cs c es b)) c es shut ≠ [] := by
  refine List.ne_nil_of_mem (a := b) (mem_free.mpr ⟨hb, ho, ?_⟩)
  rw [kept_left, List.filter_eq_nil_iff]
  intro v hv z
  rw [Bool.not_eq_true', ← Bool.not_eq_true, List.contains_iff_mem] at z
  exact z hv
theorem free_few {h : Hall} {cs : List Cl} (R : Right h cs) {c : Nat} {es gone : List Nat} {shut m : Nat} (hm : gone.length < m) (hk : ∀ k, k < h.amid → shut.testBit k = false → m ≤ (kept h cs c es k).length) : free h (left cs gone) c es shut = [] := by
  rw [List.eq_nil_iff_forall_not_mem]
  intro k hk2
  obtain ⟨h1, h2, h3⟩ := mem_free.mp hk2
  rw [kept_left, List.filter_eq_nil_iff] at h3
  have h4 : (kept h cs c es k).length ≤ gone.length := pigeon (nodup_of_lt (R.kept_strict c es k)) fun v hv => by
    have z := h3 v hv
    rw [Bool.not_eq_true', ← Bool.not_eq_true, List.contains_iff_mem] at z
    exact Classical.byContradiction z
  have := hk k h1 h2
  omega
/-- the least set: an open rack amid b with the fewest holders -/
structure Best (h : Hall) (cs : List Cl) (c : Nat) (es : List Nat) (shut b : Nat) : Prop where
  lt : b < h.amid
  op : shut.testBit b = false
  le : ∀ k, k < h.amid → shut.testBit k = false → (kept h cs c es b).length ≤ (kept h cs c es k).length
theorem Best.empty {h : Hall} {cs : List Cl} {c : Nat} {es : List Nat} {shut b : Nat} (B : Best h cs c es shut b) : kept h cs c es b = [] ↔ free h cs c es shut ≠ [] := by
  constructor
  · intro e
    exact List.ne_nil_of_mem (mem_free.mpr ⟨B.lt, B.op, e⟩)
  · intro e
    obtain ⟨k, hk⟩ := List.exists_mem_of_ne_nil _ e
    obtain ⟨h1, h2, h3⟩ := mem_free.mp hk
    have := B.le k h1 h2
    rw [h3] at this
    exact List.length_eq_zero_iff.mp (Nat.le_zero.mp this)

/-! ### counts -/
def ready (h : Hall) (shut : Nat) : List Nat := (List.range h.amid).filter fun k => !shut.testBit k
theorem mem_ready {h : Hall} {shut k : Nat} : k ∈ ready h shut ↔ k < h.amid ∧ shut.testBit k = false := by
  unfold ready
  rw [List.mem_filter, List.mem_range, Bool.not_eq_true']
def cIn (h : Hall) (cs : List Cl) (c shut : Nat) : Nat := ((ready h shut).filter fun k => onLine (inP h (c / h.cal)) cs k).length
def cOut (h : Hall) (cs : List Cl) (shut r : Nat) : Nat := ((ready h shut).filter fun k => onLine (outP h r) cs k).length
theorem count_way {h : Hall} {cs : List Cl} {c : Nat} {es : List Nat} {shut : Nat} (hf : free h cs c es shut = []) : (ready h shut).length ≤ cIn h cs c shut + ((racksOf h es).map (cOut h cs shut)).sum := by
  refine cover (fun k => onLine (inP h (c / h.cal)) cs k) (fun r k => onLine (outP h r) cs k) (racksOf h es) (ready h shut) fun k hk => ?_
  obtain ⟨h1, h2⟩ := mem_ready.mp hk
  have h3 : ¬ kept h cs c es k = [] := fun e => by
    have : k ∈ free h cs c es shut := mem_free.mpr ⟨h1, h2, e⟩
    rw [hf] at this
    simp at this
  have h4 : (kept h cs c es k).isEmpty = false := by
    cases e : (kept h cs c es k).isEmpty with
    | false => rfl
    | true => exact absurd (List.isEmpty_iff.mp e) h3
  rw [kept_empty, Bool.not_eq_false'] at h4
  rcases Bool.or_eq_true_iff.mp h4 with h4 | h4
  · exact .inl h4
  · obtain ⟨r, hr, z⟩ := List.any_eq_true.mp h4
    exact .inr ⟨r, hr, z⟩
/-- the open racks amid by bits: ((1 << amid) - 1) ^ shut -/
def readyBits (h : Hall) (shut : Nat) : Nat := (2 ^ h.amid - 1) ^^^ shut
theorem ready_bit {h : Hall} {shut k : Nat} (hs : shut < 2 ^ h.amid) : (readyBits h shut).testBit k = (decide (k < h.amid) && !shut.testBit k) := by
  unfold readyBits
  rw [Nat.testBit_xor, Nat.testBit_two_pow_sub_one]
  by_cases hk : k < h.amid
  · simp [hk]
  · have : shut.testBit k = false := Nat.testBit_lt_two_pow (Nat.lt_of_lt_of_le hs (Nat.pow_le_pow_right (by decide) (by omega)))
    simp [hk, this]
theorem ready_lt {h : Hall} {shut : Nat} (hs : shut < 2 ^ h.amid) : readyBits h shut < 2 ^ h.amid := by
  unfold readyBits
  refine Nat.xor_lt_two_pow ?_ hs
  have := Nat.two_pow_pos h.amid
  omega
def bitList (n b : Nat) : List Nat := (List.range n).filter fun k => b.testBit k
theorem bitList_ready {h : Hall} {shut : Nat} (hs : shut < 2 ^ h.amid) : bitList h.amid (readyBits h shut) = ready h shut := by
  unfold bitList ready
  refine List.filter_congr fun k hk => ?_
  rw [ready_bit hs, decide_eq_true (List.mem_range.mp hk), Bool.true_and]
theorem bitList_and {h : Hall} {shut : Nat} (hs : shut < 2 ^ h.amid) (p : Cl → Bool) (cs : List Cl) : bitList h.amid (bitsOf p cs &&& readyBits h shut) = (ready h shut).filter fun k => onLine p cs k := by
  rw [← bitList_ready hs]
  unfold bitList
  rw [List.filter_filter]
  refine List.filter_congr fun k hk => ?_
  rw [Nat.testBit_and, bits_at]
  rfl
/-- the bits above the length are none -/
theorem bitList_any {n m b : Nat} (hn : b < 2 ^ n) (hm : b < 2 ^ m) : bitList n b = bitList m b := by
  refine eq_of_strict (r := fun a b => a < b) (fun a b c => Nat.lt_trans) (fun a => Nat.lt_irrefl a) (List.Pairwise.filter _ List.pairwise_lt_range) (List.Pairwise.filter _ List.pairwise_lt_range) fun k => ?_
  have up : ∀ {n}, b < 2 ^ n → b.testBit k = true → k < n := fun {n} hb z => by
    rcases Nat.lt_or_ge k n with h | h
    · exact h
    · have : b.testBit k = false := Nat.testBit_lt_two_pow (Nat.lt_of_lt_of_le hb (Nat.pow_le_pow_right (by decide) h))
      rw [z] at this
      cases this
  unfold bitList
  rw [List.mem_filter, List.mem_filter, List.mem_range, List.mem_range]
  exact ⟨fun z => ⟨up hm z.2, z.2⟩, fun z => ⟨up hn z.2, z.2⟩⟩
end Xr
set_option Elab.async false
set_option linter.all false
set_option maxRecDepth 100000
set_option maxHeartbeats 4000000
/-! The program's text by places, what its parts stand for, callees by name. -/
namespace Xr
open PySem PySem.Spec PyProof.Rows L2
def topS (i : Nat) : Stmt := PySem.Challenge.pw_crossracks_k16_whole_paper_of_ways.main.body.getD i (.Pass ⟨0, 0, 0, 0⟩)
abbrev sPlace : Stmt := topS 1
abbrev sRacks : Stmt := topS 2
abbrev sBitl : Stmt := topS 4
abbrev sInb : Stmt := topS 5
abbrev sOutb : Stmt := topS 6
abbrev sOpen : Stmt := topS 8
abbrev sHold : Stmt := topS 9
abbrev sWays : Stmt := topS 10
abbrev sLeast : Stmt := topS 11
abbrev sCount : Stmt := topS 13
abbrev sCell : Stmt := topS 15
abbrev sHall : Stmt := topS 16
abbrev sEnds : Stmt := topS 17
abbrev sLines : Stmt := topS 18
abbrev sNumber : Stmt := topS 19
abbrev sTry : Stmt := topS 20
abbrev sAlike : Stmt := topS 21
abbrev sWheld : Stmt := topS 22
abbrev sLeft : Stmt := topS 23
abbrev sLleast : Stmt := topS 24
abbrev sCounted : Stmt := topS 25
abbrev sAsked : Stmt := topS 26
abbrev sTaken : Stmt := topS 27
abbrev sLaw : Stmt := topS 28
/-- a def of the text; its defaults -/
abbrev FnP (K : PySem.W.Frag) (x : Str) (st : Stmt) (dvs : List V) (f : Addr) (fd : FuncData) : Prop := FunD K x x (defArgs st) (defBody st) (defScope st) dvs [] f fd
/-- the built-in names that the text uses stand free -/
structure Bi (mg : Str → Option Value) : Prop where
  len : mg "len" = none
  sorted : mg "sorted" = none
  range : mg "range" = none
  divmod : mg "divmod" = none
  min : mg "min" = none
  isi : mg "isinstance" = none
  set : mg "set" = none
  list : mg "list" = none
  tuple : mg "tuple" = none
  abs : mg "abs" = none
  sum : mg "sum" = none
  int : mg "int" = none
  bool : mg "bool" = none
/-- the module's name x is a def that keeps the promise sp by the level k -/
def Has (P : Program) (w : World) (K : PySem.W.Frag) (mg : Str → Option Value) (base : Heap) (x : Str) (k : Nat) (ps : List Str) (sp : Sp) : Prop :=
  ∃ (f : Addr) (fd : FuncData), FnOk P w K mg base CX0 k f fd ps sp ∧ mg x = some (.ref f) ∧ PySem.W.keepIn K (.ref f) = true ∧ Binds K fd ps []
section
variable {X : Cx} {k j : Nat} {ps : List Str} {sp : Sp} {x : Str} {p pos : Pos} {e : Expr} {es : List Expr} {t : TA}
/-- x(e, ..) -/
theorem pe_has (h : Has X.prog X.w X.K X.mg X.base x k ps sp) (hr : Room j X.A) (hj : k ≤ j) (ha : PA X (e :: es) t) (hg : Gl X x := by rfl) (hdb : (x == ("__debug__" : Str)) = false := by decide)
    (he : starEach (e :: es) X.env = (false, eval e X.env) :: starEach es X.env := by rfl) (hpl : (backTo pos (starEach es X.env)).any (·.1) = false := by rfl) : PE X (.Call (.Name x p) (e :: es) [] pos) (tCall sp [] E0 t) := by
  obtain ⟨f, fd, F, hm, hk, hb⟩ := h
  exact pe_call F (hr.mono hj) hg hm hk hb .nil pass0 ha hdb he hpl
end
/-! ### values -/
abbrev I (n : Nat) : V := .int (n : Int)
def nI (l : List Nat) : List V := l.map I
theorem nI_len (l : List Nat) : (nI l).length = l.length := List.length_map _
theorem nI_at {l : List Nat} {i : Nat} {x : V} (h : (nI l)[i]? = some x) : ∃ n, l[i]? = some n ∧ x = I n := by
  unfold nI at h
  rw [List.getElem?_map] at h
  cases e : l[i]? with
  | none => rw [e] at h; cases h
  | some n => rw [e] at h; exact ⟨n, rfl, (Option.some.inj h).symm⟩
theorem nI_get {l : List Nat} {i n : Nat} (h : l[i]? = some n) : (nI l)[i]? = some (I n) := by
  unfold nI
  rw [List.getElem?_map, h]
  rfl
theorem nI_int (l : List Nat) : nI l = (l.map fun n : Nat => (n : Int)).map V.int := by
  unfold nI
  rw [List.map_map]
  rfl
def hallV (h : Hall) : List V := [I h.ins, I h.cal, I h.amid, I h.outs, I h.ends]
/-! ### heaps -/
theorem same_upd {H : Hp} {p : Addr} {o : HO} (h : H p = none) : Same H (upd H p o) := fun b x e => by
  rw [upd_ne (ne_of_none e h)]
  exact e
theorem Same.seqT {K : PySem.W.Frag} {H H' : Hp} {a : Addr} {xs : List V} (e : Same H H') (h : SqT K H a xs) : SqT K H' a xs := by
  rcases h with (h | ⟨o, h⟩) | h
  · exact .inl (.inl (e _ _ h))
  · exact .inl (.inr ⟨o, e _ _ h⟩)
  · exact .inr h
/-- a list or a tuple -/
def SqA (K : PySem.W.Frag) (H : Hp) (a : Addr) (xs : List V) : Prop := SqL K H a xs ∨ SqT K H a xs
theorem Same.seqA {K : PySem.W.Frag} {H H' : Hp} {a : Addr} {xs : List V} (e : Same H H') (h : SqA K H a xs) : SqA K H' a xs := h.elim (fun h => .inl (e.seq h)) fun h => .inr (Same.seqT e h)
/-- a call at p -/
def ClAt (K : PySem.W.Frag) (H : Hp) (p : Addr) (d : Cl) : Prop := ∃ q, SqT K H p [I d.c, .ref q, I d.k] ∧ SqT K H q (nI d.es)
theorem ClAt.same {K : PySem.W.Frag} {H H' : Hp} {p : Addr} {d : Cl} (e : Same H H') (c : ClAt K H p d) : ClAt K H' p d := by
  obtain ⟨q, h1, h2⟩ := c
  exact ⟨q, Same.seqT e h1, Same.seqT e h2⟩
abbrev refs (ts : List (Addr × Cl)) : List V := ts.map fun t => V.ref t.1
abbrev cls (ts : List (Addr × Cl)) : List Cl := ts.map (·.2)
/-- a list of calls -/
structure CallsAt (K : PySem.W.Frag) (H : Hp) (a : Addr) (ts : List (Addr × Cl)) : Prop where
  at_ : SqL K H a (refs ts)
  each : ∀ t, t ∈ ts → ClAt K H t.1 t.2
theorem CallsAt.same {K : PySem.W.Frag} {H H' : Hp} {a : Addr} {ts : List (Addr × Cl)} (e : Same H H') (c : CallsAt K H a ts) : CallsAt K H' a ts :=
  ⟨e.seq c.at_, fun t ht => (c.each t ht).same e⟩
theorem refs_at {ts : List (Addr × Cl)} {i : Nat} {x : V} (h : (refs ts)[i]? = some x) : ∃ t, ts[i]? = some t ∧ x = V.ref t.1 := by
  rw [List.getElem?_map] at h
  cases e : ts[i]? with
  | none => rw [e] at h; cases h
  | some n => rw [e] at h; exact ⟨n, rfl, (Option.some.inj h).symm⟩
end Xr
set_option Elab.async false
set_option linter.all false
set_option maxRecDepth 100000
set_option maxHeartbeats 4000000
/-! Rules that the layer lacks, 1: sorted of a list or a tuple of whole numbers. -/
namespace Xr
open PySem PySem.Spec PyProof.Rows L2
section
variable {P : Program} {w : World} {A : Around} {E : Value → Shared → Prop} {s : Shared}
theorem raw_sorted {l : Addr} {T : String} {o : Obj} {its : List Value} {n : Nat} {ns : List Int} {Q : Value → Shared → Prop} (hT : T = "list" ∨ T = "tuple") (ho : s.heap.get? l = some o) (hc : o.cls = .type T) (hd : o.data = .seq its.toArray n)
    (hI : IntsAre its ns) (few : its.length < 64)
    (hQ : ∀ (h1 h' : Heap) (out : Array Value) (c : Nat) (ms : List Int), (∀ b u, s.heap.get? b = some u → h1.get? b = some u) → (∀ b u, h1.get? b = some u → h'.get? b = some u) → h'.get? h1.objs.size = some (seqObj "list" out c) →
      IntsAre out.toList ms → ms.Perm ns → ms.Pairwise (· ≤ ·) → Q (.ref h1.objs.size) { s with heap := h' }) : wpAny (model P w) A (call (.builtin "sorted") [.ref l]) Q E s := by
  refine Calls.call_function_entry kind_sorted plain_sorted entry_sorted (args_sorted1 _) ?_
  unfold Builtin.«sorted»
  have sz : its.toArray.size ≤ sizeLine := by rw [List.size_toArray, sizeLine_eq]; omega
  refine wpAny_bind (m := checkCount "sorted" 1 1 _) (wpAny_pure ?_)
  refine wpAny_bind (wpAny_collect_seq l hT ho hc hd (fun h1 kp => ?_) sz)
  rw [List.toList_toArray]
  refine wpAny_bind (wpAny_newList ?_ (by rw [sizeLine_eq]; omega))
  have hL : (h1.push (seqObj "list" its.toArray 0)).get? h1.objs.size = some (seqObj "list" its.toArray 0) := Heap.get?_push_size _ rfl
  refine wpAny_bind (wpAny_holding (wpAny_call_entry slot_list_sort ⟨_, hL, rfl⟩ entry_list_sort (list_sort_tree hL hI few fun out ms a1 a2 a3 => ⟨_, rfl, ?_⟩) (args_list_sort _)))
  obtain ⟨c, hc'⟩ := sortedHeap_at (vs := its) (out := out) hL
  refine wpAny_pure ⟨_, rfl, hQ h1 _ out c ms kp (fun b u e => ?_) hc' a1 a2 a3⟩
  have hlt := Heap.lt_size e
  rw [sortedHeap_old (Nat.ne_of_lt hlt) (by rw [size_push']; exact Nat.lt_succ_of_lt hlt)]
  exact Heap.get?_push_of_some _ e
end
/-- sorted(xs), xs a list or a tuple of whole numbers, fewer than 64 -/
def rSortA (K : PySem.W.Frag) : List V → Hp → VK → Prop := fun vs H Q => ∃ (a : Addr) (ns : List Int), vs = [V.ref a] ∧ SqA K H a (ns.map V.int) ∧ ns.length < 64 ∧
  ∀ (ms : List Int) (p : Addr), ms.Perm ns → ms.Pairwise (· ≤ ·) → H p = none → Q (.ref p) (upd H p (.lst (ms.map V.int)))
theorem cr_sortA {X : Cx} : CallR X (.builtin "sorted") (rSortA X.K) := by
  intro pins s σ H vs us Q I r h
  obtain ⟨a, ns, rfl, hs, few, q⟩ := h
  rw [Vals.ref1 r]
  have fin : ∀ {its : List Value}, Vals (ns.map V.int) its → ∀ (h1 h' : Heap) (out : Array Value) (c : Nat) (ms : List Int), (∀ b u, s.heap.get? b = some u → h1.get? b = some u) → (∀ b u, h1.get? b = some u → h'.get? b = some u) →
      h'.get? h1.objs.size = some (seqObj "list" out c) → IntsAre out.toList ms → ms.Perm ns → ms.Pairwise (· ≤ ·) → EP X pins σ Q (.ref h1.objs.size) { s with heap := h' } := fun {its} rv h1 h' out c ms k1 k2 hg b1 b2 b3 => by
    have I1 : Inv X pins σ H { s with heap := h1 } := I.kept (t' := s.toks) k1
    have hlen : (ms.map V.int).length ≤ sizeLine := by
      rw [List.length_map, b2.length_eq, sizeLine_eq]; omega
    exact ⟨.ref _, upd H h1.objs.size (.lst (ms.map V.int)), I1.laid (t' := s.toks) k2 (Nat.le_refl _) ⟨hlen, out.toList, c, vals_of_ints b1, hg⟩, rfl, q ms _ b2 b3 (I1.hok.fresh (Nat.le_refl _))⟩
  rcases hs with hs | hs
  · obtain ⟨its, rv, ⟨o, n, ho, hc, hx, hd⟩, hz⟩ := I.list hs
    exact raw_sorted (.inl rfl) ho hc hd rv.ints (by rw [← rv.length, List.length_map]; exact few) (fin rv)
  · obtain ⟨its, rv, ⟨o, ho, hc, n, hd⟩, hz⟩ := I.tuple hs
    exact raw_sorted (.inr rfl) ho hc hd rv.ints (by rw [← rv.length, List.length_map]; exact few) (fin rv)
end Xr
set_option Elab.async false
set_option linter.all false
set_option maxRecDepth 100000
set_option maxHeartbeats 4000000
/-! Lists and tuples read as data: comparisons. -/
namespace Xr
open PySem PySem.Spec PyProof.Rows L2
def dI (l : List Nat) : List PyData := l.map fun n : Nat => PyData.int (n : Int)
theorem dI_cons (n : Nat) (l : List Nat) : dI (n :: l) = PyData.int (n : Int) :: dI l := rfl
theorem dp_nI {K : PySem.W.Frag} {H : Hp} : ∀ l : List Nat, DpAll K H (nI l) (dI l)
  | [] => .nil
  | n :: l => .cons (.int _) (dp_nI l)
theorem lay_dI : ∀ l : List Nat, PyData.canLayAll0 (dI l) = true
  | [] => by simp [dI, PyData.canLayAll0]
  | n :: l => by
    rw [dI_cons]
    simp only [PyData.canLayAll0, PyData.canLay0, lay_dI l, Bool.and_self]
theorem dep_dI : ∀ l : List Nat, PyData.depthAll (dI l) = 0
  | [] => by simp [dI, PyData.depthAll]
  | n :: l => by
    rw [dI_cons]
    simp only [PyData.depthAll, PyData.depth, dep_dI l, Nat.max_self]
theorem sh_list {ds : List PyData} (h1 : PyData.canLayAll0 ds = true) (h2 : PyData.depthAll ds ≤ 60) : SeqAt.shaped (.list ds) = true := by
  unfold SeqAt.shaped
  have e1 : PyData.canLay0 (.list ds) = true := by simp only [PyData.canLay0]; exact h1
  have e2 : PyData.depth (.list ds) = PyData.depthAll ds + 1 := by simp only [PyData.depth]
  rw [e1, e2, Bool.true_and, decide_eq_true_eq]
  omega
theorem sh_tup {ds : List PyData} (h1 : PyData.canLayAll0 ds = true) (h2 : PyData.depthAll ds ≤ 60) : SeqAt.shaped (.tuple ds) = true := by
  unfold SeqAt.shaped
  have e1 : PyData.canLay0 (.tuple ds) = true := by simp only [PyData.canLay0]; exact h1
  have e2 : PyData.depth (.tuple ds) = PyData.depthAll ds + 1 := by simp only [PyData.depth]
  rw [e1, e2, Bool.true_and, decide_eq_true_eq]
  omega
theorem sh_nil : SeqAt.shaped (.list []) = true := sh_list (by simp [PyData.canLayAll0]) (by simp [PyData.depthAll])
theorem sh_dI (l : List Nat) : SeqAt.shaped (.list (dI l)) = true := sh_list (lay_dI l) (by rw [dep_dI]; exact Nat.zero_le _)
theorem eqv_nil (ds : List PyData) : PyData.eqv (.list ds) (.list []) = ds.isEmpty := by
  simp only [PyData.eqv]
  cases ds <;> simp [PyData.eqvAll]
theorem eqv_dI : ∀ l m : List Nat, PyData.eqvAll (dI l) (dI m) = decide (l = m)
  | [], [] => by simp [dI, PyData.eqvAll]
  | [], n :: m => by simp [dI, PyData.eqvAll]
  | n :: l, [] => by simp [dI, PyData.eqvAll]
  | n :: l, k :: m => by
    rw [dI_cons, dI_cons]
    simp only [PyData.eqvAll, PyData.eqv, eqv_dI l m]
    rw [Bool.eq_iff_iff]
    simp [Int.natCast_inj]
theorem eqv_lI (l m : List Nat) : PyData.eqv (.list (dI l)) (.list (dI m)) = decide (l = m) := by
  simp only [PyData.eqv]
  exact eqv_dI l m
/-! ### calls as data -/
def dC (d : Cl) : PyData := .tuple [.int (d.c : Int), .tuple (dI d.es), .int (d.k : Int)]
theorem dp_C {K : PySem.W.Frag} {H : Hp} {p : Addr} {d : Cl} (c : ClAt K H p d) : Dp K H (.ref p) (dC d) := by
  obtain ⟨q, h1, h2⟩ := c
  exact .tup h1 (.cons (.int _) (.cons (.tup h2 (dp_nI _)) (.cons (.int _) .nil)))
theorem dp_Cs {K : PySem.W.Frag} {H : Hp} : ∀ ts : List (Addr × Cl), (∀ t, t ∈ ts → ClAt K H t.1 t.2) → DpAll K H (refs ts) ((cls ts).map dC)
  | [], _ => .nil
  | t :: ts, h => .cons (dp_C (h t List.mem_cons_self)) (dp_Cs ts fun u hu => h u (List.mem_cons_of_mem _ hu))
theorem lay_C (d : Cl) : PyData.canLay0 (dC d) = true := by
  unfold dC
  simp only [PyData.canLay0, PyData.canLayAll0, lay_dI, Bool.and_self]
theorem dep_C (d : Cl) : PyData.depth (dC d) = 2 := by
  unfold dC
  simp [PyData.depth, PyData.depthAll, dep_dI]
theorem lay_Cs : ∀ ds : List Cl, PyData.canLayAll0 (ds.map dC) = true
  | [] => by simp [PyData.canLayAll0]
  | d :: ds => by
    rw [List.map_cons]
    simp only [PyData.canLayAll0, lay_C, lay_Cs ds, Bool.and_self]
theorem dep_Cs : ∀ ds : List Cl, PyData.depthAll (ds.map dC) ≤ 2
  | [] => by simp [PyData.depthAll]
  | d :: ds => by
    have ih := dep_Cs ds
    rw [List.map_cons]
    simp only [PyData.depthAll, dep_C]
    omega
theorem sh_C (d : Cl) : SeqAt.shaped (dC d) = true := by
  unfold SeqAt.shaped
  rw [lay_C, dep_C]
  rfl
theorem sh_Cs (ds : List Cl) : SeqAt.shaped (.list (ds.map dC)) = true := sh_list (lay_Cs ds) (Nat.le_trans (dep_Cs ds) (by decide))
theorem eqv_Cs (ds : List Cl) : PyData.eqv (.list (ds.map dC)) (.list (ds.map dC)) = true := SeqAt.eqv_refl _ (by simp only [PyData.canLay0]; exact lay_Cs ds)
/-! ### readings -/
theorem rEq_nil {K : PySem.W.Frag} {H : Hp} {a b : Addr} {xs : List V} {ds : List PyData} {Q : VK} (ha : SqL K H a xs) (hb : SqL K H b []) (hd : DpAll K H xs ds) (hs : SeqAt.shaped (.list ds) = true) (q : Q (.bl ds.isEmpty) H) : rEqD K (.ref a) (.ref b) H Q := by
  refine ⟨.list ds, .list [], .lst ha hd, .lst hb .nil, hs, sh_nil, ?_⟩
  rw [eqv_nil]
  exact q
theorem rNe_nil {K : PySem.W.Frag} {H : Hp} {a b : Addr} {xs : List V} {ds : List PyData} {Q : VK} (ha : SqL K H a xs) (hb : SqL K H b []) (hd : DpAll K H xs ds) (hs : SeqAt.shaped (.list ds) = true) (q : Q (.bl (!ds.isEmpty)) H) : rNeD K (.ref a) (.ref b) H Q := by
  refine ⟨.list ds, .list [], .lst ha hd, .lst hb .nil, hs, sh_nil, ?_⟩
  rw [eqv_nil]
  exact q
theorem rEq_nI {K : PySem.W.Frag} {H : Hp} {a b : Addr} {l m : List Nat} {Q : VK} (ha : SqL K H a (nI l)) (hb : SqL K H b (nI m)) (q : Q (.bl (decide (l = m))) H) : rEqD K (.ref a) (.ref b) H Q := by
  refine ⟨_, _, .lst ha (dp_nI l), .lst hb (dp_nI m), sh_dI l, sh_dI m, ?_⟩
  rw [eqv_lI]
  exact q
theorem rNe_nI {K : PySem.W.Frag} {H : Hp} {a b : Addr} {l m : List Nat} {Q : VK} (ha : SqL K H a (nI l)) (hb : SqL K H b (nI m)) (q : Q (.bl (!decide (l = m))) H) : rNeD K (.ref a) (.ref b) H Q := by
  refine ⟨_, _, .lst ha (dp_nI l), .lst hb (dp_nI m), sh_dI l, sh_dI m, ?_⟩
  rw [eqv_lI]
  exact q
theorem dI_empty (l : List Nat) : (dI l).isEmpty = l.isEmpty := by cases l <;> rfl
end Xr
set_option Elab.async false
set_option linter.all false
set_option maxRecDepth 100000
set_option maxHeartbeats 4000000
/-! Small facts that several walks use. -/
namespace Xr
open PySem PySem.Spec PyProof.Rows L2
abbrev zI (l : List Nat) : List Int := l.map fun n : Nat => (n : Int)
theorem zI_toNat : ∀ l : List Nat, (zI l).map Int.toNat = l
  | [] => rfl
  | n :: l => by
    show Int.toNat (n : Int) :: (zI l).map Int.toNat = n :: l
    rw [zI_toNat l]
    rfl
theorem nat_back : ∀ ms : List Int, (∀ m, m ∈ ms → 0 ≤ m) → zI (ms.map Int.toNat) = ms
  | [], _ => rfl
  | m :: ms, h => by
    show ((m.toNat : Nat) : Int) :: zI (ms.map Int.toNat) = m :: ms
    rw [nat_back ms fun x hx => h x (List.mem_cons_of_mem _ hx), Int.toNat_of_nonneg (h m List.mem_cons_self)]
theorem nat_perm {ms : List Int} {es : List Nat} (p : ms.Perm (zI es)) (s : ms.Pairwise (· ≤ ·)) : ∃ l : List Nat, ms.map V.int = nI l ∧ l.Perm es ∧ l.Pairwise (· ≤ ·) := by
  have nn : ∀ m, m ∈ ms → 0 ≤ m := fun m hm => by
    obtain ⟨n, _, rfl⟩ := List.mem_map.mp (p.mem_iff.mp hm)
    exact Int.natCast_nonneg n
  refine ⟨ms.map Int.toNat, ?_, ?_, ?_⟩
  · rw [nI_int]
    exact congrArg (List.map V.int) (nat_back ms nn).symm
  · have q := p.map Int.toNat
    rw [zI_toNat] at q
    exact q
  · rw [List.pairwise_map]
    exact s.imp fun {a b} h => Int.toNat_le_toNat h
theorem ediv_nat (a b : Nat) : ((a : Int) / (b : Int)) = ((a / b : Nat) : Int) := by omega
theorem emod_nat (a b : Nat) : ((a : Int) % (b : Int)) = ((a % b : Nat) : Int) := by omega
theorem getLast_at {l : List Nat} {x : Nat} (h : l.getLast? = some x) : atI (nI l) (-1) = some (I x) := by
  obtain ⟨m, rfl⟩ : ∃ m, l = m ++ [x] := by
    have hne : l ≠ [] := fun e => by rw [e] at h; cases h
    refine ⟨l.dropLast, ?_⟩
    have e := List.getLast?_eq_some_getLast hne
    rw [h] at e
    have d := List.dropLast_concat_getLast hne
    rw [← Option.some.inj e] at d
    exact d.symm
  unfold nI
  rw [List.map_append]
  exact atI_last _ _
theorem dec_I (a b : Nat) : decide (I a = I b) = decide (a = b) := by
  rw [Bool.eq_iff_iff, decide_eq_true_eq, decide_eq_true_eq]
  constructor
  · intro e
    exact Int.natCast_inj.mp (V.int.inj e)
  · intro e
    rw [e]
theorem tb_shift (s k : Nat) : ((s : Int) / 2 ^ (k : Int).toNat) = ((s >>> k : Nat) : Int) := by
  rw [Int.toNat_natCast, Nat.shiftRight_eq_div_pow]
  have e : ((2 : Int) ^ k) = ((2 ^ k : Nat) : Int) := by rw [Int.natCast_pow]; rfl
  rw [e, ediv_nat]
theorem and_one (n : Nat) : Builtin.bitAnd (n : Int) 1 = ((n % 2 : Nat) : Int) := by
  have e : Builtin.bitAnd (n : Int) 1 = Builtin.bitAnd (n : Int) (2 ^ 1 - 1) := rfl
  rw [e, Bits.bitAnd_mask 1 (Int.natCast_nonneg n)]
  have e2 : ((2 : Int) ^ 1) = ((2 : Nat) : Int) := rfl
  rw [e2, emod_nat]
theorem tb_mod (s k : Nat) : (s >>> k) % 2 = if s.testBit k = true then 1 else 0 := by
  rw [Nat.testBit_eq_decide_div_mod_eq, Nat.shiftRight_eq_div_pow]
  have h := Nat.mod_lt (s / 2 ^ k) (show 0 < 2 by decide)
  by_cases e : s / 2 ^ k % 2 = 1
  · rw [e]; rfl
  · have : s / 2 ^ k % 2 = 0 := by omega
    rw [this]; rfl
theorem shl_nat (k : Nat) : ((1 : Int) * 2 ^ (k : Int).toNat) = ((2 ^ k : Nat) : Int) := by
  rw [Int.toNat_natCast, Int.one_mul, Int.natCast_pow]
  rfl
theorem or_nat (a b : Nat) : Builtin.bitOr (a : Int) (b : Int) = ((a ||| b : Nat) : Int) := by
  rw [Bits.bitOr_pp (Int.natCast_nonneg a) (Int.natCast_nonneg b)]
  rfl
theorem and_nat (a b : Nat) : Builtin.bitAnd (a : Int) (b : Int) = ((a &&& b : Nat) : Int) := by
  rw [bitAnd_pp (Int.natCast_nonneg a) (Int.natCast_nonneg b)]
  rfl
theorem xor_nat (a b : Nat) : Builtin.bitXor (a : Int) (b : Int) = ((a ^^^ b : Nat) : Int) := by
  rw [Bits.bitXor_pp (Int.natCast_nonneg a) (Int.natCast_nonneg b)]
  rfl
end Xr
set_option Elab.async false
set_option linter.all false
set_option maxRecDepth 100000
set_option maxHeartbeats 4000000
/-! Operators on whole numbers that are not negative, told in Nat. -/
namespace Xr
open PySem PySem.Spec PyProof.Rows L2
section
variable {X : Cx} {f : Value → Value → Sem Value}
theorem opr_of {r r' : R2} (h : OpR X f r) (m : ∀ x y H Q, r' x y H Q → r x y H Q) : OpR X f r' := fun pins s σ H x y v u Q I rx ry q => h pins s σ H x y v u Q I rx ry (m x y H Q q)
/-- two numbers n, m with C n m; the answer g n m -/
def rN (C : Nat → Nat → Prop) (g : Nat → Nat → V) : R2 := fun x y H Q => ∃ n m : Nat, x = I n ∧ y = I m ∧ C n m ∧ Q (g n m) H
def rN0 (g : Nat → Nat → V) : R2 := fun x y H Q => ∃ n m : Nat, x = I n ∧ y = I m ∧ Q (g n m) H
theorem opn_add : OpR X (binaryOp .Add) (rN0 fun n m => I (n + m)) := opr_of op_add fun x y H Q ⟨n, m, e1, e2, q⟩ => ⟨_, _, e1, e2, q⟩
theorem opn_sub : OpR X (binaryOp .Sub) (rN (fun n m => m ≤ n) fun n m => I (n - m)) := opr_of op_sub fun x y H Q ⟨n, m, e1, e2, c, q⟩ => ⟨_, _, e1, e2, by
  have e : ((n : Int) - (m : Int)) = ((n - m : Nat) : Int) := by omega
  show Q (V.int ((n : Int) - (m : Int))) H
  rw [e]
  exact q⟩
theorem opn_mul : OpR X (binaryOp .Mult) (rN (fun n m => m < 2 ^ 64) fun n m => I (n * m)) := opr_of op_mul fun x y H Q ⟨n, m, e1, e2, c, q⟩ => ⟨_, _, e1, e2, .inr ⟨by omega, by omega⟩, by
  show Q (V.int ((n : Int) * (m : Int))) H
  rw [← Int.natCast_mul]
  exact q⟩
theorem opn_div : OpR X (binaryOp .FloorDiv) (rN (fun n m => 1 ≤ m ∧ m < 1000) fun n m => I (n / m)) := opr_of op_fdiv fun x y H Q ⟨n, m, e1, e2, c, q⟩ => ⟨_, _, e1, e2, ⟨by omega, by omega⟩, by
  show Q (V.int ((n : Int) / (m : Int))) H
  rw [ediv_nat]
  exact q⟩
theorem opn_divW : OpR X (binaryOp .FloorDiv) (rN (fun n m => 1 ≤ m ∧ m < 2 ^ 100) fun n m => I (n / m)) := opr_of op_fdivW fun x y H Q ⟨n, m, e1, e2, c, q⟩ => ⟨_, _, e1, e2, wide_div (b := 100) (by omega) (by rw [Int.natAbs_natCast]; exact c.2) (by decide) (by decide), by
  show Q (V.int ((n : Int) / (m : Int))) H
  rw [ediv_nat]
  exact q⟩
theorem opn_mod : OpR X (binaryOp .Mod) (rN (fun n m => 1 ≤ m) fun n m => I (n % m)) := opr_of op_mod fun x y H Q ⟨n, m, e1, e2, c, q⟩ => ⟨_, _, e1, e2, by omega, by
  show Q (V.int ((n : Int) % (m : Int))) H
  rw [emod_nat]
  exact q⟩
theorem opn_and : OpR X (binaryOp .BitAnd) (rN0 fun n m => I (n &&& m)) := opr_of op_and fun x y H Q ⟨n, m, e1, e2, q⟩ => ⟨_, _, e1, e2, by
  show Q (V.int (Builtin.bitAnd (n : Int) (m : Int))) H
  rw [and_nat]
  exact q⟩
theorem opn_or : OpR X (binaryOp .BitOr) (rN0 fun n m => I (n ||| m)) := opr_of op_or fun x y H Q ⟨n, m, e1, e2, q⟩ => ⟨_, _, e1, e2, by
  show Q (V.int (Builtin.bitOr (n : Int) (m : Int))) H
  rw [or_nat]
  exact q⟩
theorem opn_xor : OpR X (binaryOp .BitXor) (rN0 fun n m => I (n ^^^ m)) := opr_of op_xor fun x y H Q ⟨n, m, e1, e2, q⟩ => ⟨_, _, e1, e2, by
  show Q (V.int (Builtin.bitXor (n : Int) (m : Int))) H
  rw [xor_nat]
  exact q⟩
theorem opn_shl1 : OpR X (binaryOp .LShift) (fun x y H Q => ∃ k : Nat, x = .int 1 ∧ y = I k ∧ k ≤ 1000 ∧ Q (I (2 ^ k)) H) := opr_of op_shl fun x y H Q ⟨k, e1, e2, c, q⟩ => ⟨_, _, e1, e2, ⟨by omega, by omega, by decide⟩, by
  show Q (V.int ((1 : Int) * 2 ^ (k : Int).toNat)) H
  rw [shl_nat]
  exact q⟩
theorem opn_shr : OpR X (binaryOp .RShift) (rN0 fun n m => I (n >>> m)) := opr_of op_shr fun x y H Q ⟨n, m, e1, e2, q⟩ => ⟨_, _, e1, e2, Int.natCast_nonneg m, by
  show Q (V.int ((n : Int) / 2 ^ (m : Int).toNat)) H
  rw [tb_shift]
  exact q⟩
theorem opn_eq : OpR X (compareOp .Eq) (rN0 fun n m => .bl (decide (n = m))) := opr_of op_eq fun x y H Q ⟨n, m, e1, e2, q⟩ => by
  rw [e1, e2]
  refine ⟨rfl, ?_⟩
  rw [dec_I]
  exact q
theorem opn_ne : OpR X (compareOp .NotEq) (rN0 fun n m => .bl (!decide (n = m))) := opr_of op_ne fun x y H Q ⟨n, m, e1, e2, q⟩ => by
  rw [e1, e2]
  refine ⟨rfl, ?_⟩
  rw [dec_I]
  exact q
theorem opn_lt : OpR X (compareOp .Lt) (rN0 fun n m => .bl (decide (n < m))) := opr_of op_lt fun x y H Q ⟨n, m, e1, e2, q⟩ => ⟨_, _, e1, e2, by
  have e : decide ((n : Int) < (m : Int)) = decide (n < m) := by rw [Bool.eq_iff_iff, decide_eq_true_eq, decide_eq_true_eq]; omega
  show Q (.bl (decide ((n : Int) < (m : Int)))) H
  rw [e]
  exact q⟩
theorem opn_ge : OpR X (compareOp .GtE) (rN0 fun n m => .bl (decide (m ≤ n))) := opr_of op_ge fun x y H Q ⟨n, m, e1, e2, q⟩ => ⟨_, _, e1, e2, by
  have e : decide ((m : Int) ≤ (n : Int)) = decide (m ≤ n) := by rw [Bool.eq_iff_iff, decide_eq_true_eq, decide_eq_true_eq]; omega
  show Q (.bl (decide ((m : Int) ≤ (n : Int)))) H
  rw [e]
  exact q⟩
theorem opn_le : OpR X (compareOp .LtE) (rN0 fun n m => .bl (decide (n ≤ m))) := opr_of op_le fun x y H Q ⟨n, m, e1, e2, q⟩ => ⟨_, _, e1, e2, by
  have e : decide ((n : Int) ≤ (m : Int)) = decide (n ≤ m) := by rw [Bool.eq_iff_iff, decide_eq_true_eq, decide_eq_true_eq]; omega
  show Q (.bl (decide ((n : Int) ≤ (m : Int)))) H
  rw [e]
  exact q⟩
/-- s >> k & 1 == 0 -/
theorem open_bit (s k : Nat) : decide (s >>> k &&& 1 = 0) = !s.testBit k := by
  have e : s >>> k &&& 1 = (s >>> k) % 2 := Nat.and_one_is_mod _
  rw [e, tb_mod]
  cases s.testBit k <;> rfl
theorem set_bit (s k : Nat) : decide (s >>> k &&& 1 = 1) = s.testBit k := by
  have e : s >>> k &&& 1 = (s >>> k) % 2 := Nat.and_one_is_mod _
  rw [e, tb_mod]
  cases s.testBit k <;> rfl
end
section
variable (K : PySem.W.Frag) {X : Cx}
/-! the written part told (within a comprehension) -/
theorem inK (h : X.K = K := by rfl) : OpR X (compareOp .In) (rIn K false) := by subst h; exact op_in_seq
theorem notInK (h : X.K = K := by rfl) : OpR X (compareOp .NotIn) (rIn K true) := by subst h; exact op_notIn_seq
theorem ixT (h : X.K = K := by rfl) : IxR X (rIxT K) := by subst h; exact ix_tup
theorem ixL (h : X.K = K := by rfl) : IxR X (rIxL K) := by subst h; exact ix_list
theorem eqDK (hu : X.A.units + 64 < cLine) (h : X.K = K := by rfl) : OpR X (compareOp .Eq) (rEqD K) := by subst h; exact op_eqD hu
theorem neDK (hu : X.A.units + 64 < cLine) (h : X.K = K := by rfl) : OpR X (compareOp .NotEq) (rNeD K) := by subst h; exact op_neD hu
theorem listK (l : Expr) {tl : TE} {tg : Expr} (hl : PE X l tl) (h : X.K = K := by rfl) : PI X tg l (iList K tl) := by subst h; exact pi_list hl
end
section
variable (K : PySem.W.Frag) {X : Cx}
theorem lenK (h : X.K = K := by rfl) : CallR X (.builtin "len") (fun xs H Q => ∃ p ys, xs = [.ref p] ∧ (SqL K H p ys ∨ SqT K H p ys) ∧ Q (I ys.length) H) := by subst h; exact call_len_seq
end
end Xr
set_option Elab.async false
set_option linter.all false
set_option maxRecDepth 100000
set_option maxHeartbeats 4000000
/-! Comprehensions and loops whose turns change nothing that stood. -/
namespace Xr
open PySem PySem.Spec PyProof.Rows L2
section
variable {K : PySem.W.Frag} {a : Addr} {xs : List V} {g : TG} {tt : TT} {te : TE} {vs : List Nat} {σ : L2.St} {H1 : Hp} {D : Addr} {Qd : Hp → Prop}
/-- one turn of a comprehension: it keeps the item y (zt) or not (zf) -/
abbrev Turn (g : TG) (tt : TT) (te : TE) (vs : List Nat) (σ : L2.St) (x : V) (H : Hp) (Zt : V → Hp → Prop) (Zf : Hp → Prop) : Prop :=
  g x (wipe σ vs) H fun σ2 H2 => wipe σ2 vs = wipe σ vs ∧ tt σ2 H2 fun b H3 => if b = true then te σ2 H3 Zt else Zf H3
/-- what a comprehension asks of the walk J -/
abbrev Lc (J : It) (g : TG) (tt : TT) (te : TE) (vs : List Nat) (σ : L2.St) (H1 : Hp) (D : Addr) (Qd : Hp → Prop) : Prop :=
  ∃ W : Nat → Nat → Hp → Prop, (∃ m, W 0 m (upd H1 D (.lst []))) ∧ ∀ i m H, W i m H →
    (J.stop i H ∧ Qd H) ∨ (J.go i H ∧ ∃ Nx : Hp → Prop, (∀ H', Nx H' → ∃ m', m' < m ∧ W (i + 1) m' H') ∧ ∀ x H', J.yld i H x H' →
      Turn g tt te vs σ x H' (fun y H4 => ∃ acc, H4 D = some (.lst acc) ∧ acc.length < sizeLine ∧ Nx (upd H4 D (.lst (acc ++ [y])))) Nx)
theorem same_D {H1 H4 : Hp} {o : HO} (hD : H1 D = none) (s : Same H1 H4) : Same H1 (upd H4 D o) := fun b u e => by
  rw [upd_ne (ne_of_none e hD)]
  exact s b u e
/-- over a list; out i: what is made of the first i items -/
theorem lcs_list (out : Nat → List V) (hD : H1 D = none) (ha : SqL K H1 a xs) (h0 : out 0 = []) (few : ∀ i, i ≤ xs.length → (out i).length < sizeLine)
    (hs : ∀ i x H (Zt : V → Hp → Prop) (Zf : Hp → Prop), xs[i]? = some x → Same H1 H → (∀ y H4, Same H H4 → out (i + 1) = out i ++ [y] → Zt y H4) → (∀ H3, Same H H3 → out (i + 1) = out i → Zf H3) → Turn g tt te vs σ x H Zt Zf)
    (hd : ∀ H, Same H1 H → H D = some (.lst (out xs.length)) → Qd H) : Lc (Itl K a) g tt te vs σ H1 D Qd := by
  refine lc_list (K := K) (a := a) (xs := xs) (fun i H => Same H1 H ∧ H D = some (.lst (out i))) ⟨same_upd hD, by rw [upd_same, h0]⟩ (fun i H _ p => p.1.seq ha) (fun i x H hi p => ?_) fun H p => hd H p.1 p.2
  have lt : i < xs.length := (List.getElem?_eq_some_iff.mp hi).1
  refine hs i x H _ _ hi p.1 (fun y H4 s4 e => ⟨out i, s4 _ _ p.2, few i (Nat.le_of_lt lt), same_D hD (p.1.trans s4), by rw [upd_same, e]⟩) fun H3 s3 e => ⟨p.1.trans s3, by rw [s3 _ _ p.2, e]⟩
theorem lcs_tup (out : Nat → List V) (hD : H1 D = none) (ha : SqT K H1 a xs) (h0 : out 0 = []) (few : ∀ i, i ≤ xs.length → (out i).length < sizeLine)
    (hs : ∀ i x H (Zt : V → Hp → Prop) (Zf : Hp → Prop), xs[i]? = some x → Same H1 H → (∀ y H4, Same H H4 → out (i + 1) = out i ++ [y] → Zt y H4) → (∀ H3, Same H H3 → out (i + 1) = out i → Zf H3) → Turn g tt te vs σ x H Zt Zf)
    (hd : ∀ H, Same H1 H → H D = some (.lst (out xs.length)) → Qd H) : Lc (Itt K a) g tt te vs σ H1 D Qd := by
  refine lc_tup (K := K) (a := a) (xs := xs) (fun i H => Same H1 H ∧ H D = some (.lst (out i))) ⟨same_upd hD, by rw [upd_same, h0]⟩ (fun i H _ p => Same.seqT p.1 ha) (fun i x H hi p => ?_) fun H p => hd H p.1 p.2
  have lt : i < xs.length := (List.getElem?_eq_some_iff.mp hi).1
  refine hs i x H _ _ hi p.1 (fun y H4 s4 e => ⟨out i, s4 _ _ p.2, few i (Nat.le_of_lt lt), same_D hD (p.1.trans s4), by rw [upd_same, e]⟩) fun H3 s3 e => ⟨p.1.trans s3, by rw [s3 _ _ p.2, e]⟩
theorem lcs_range {n : Nat} (out : Nat → List V) (hD : H1 D = none) (h0 : out 0 = []) (few : ∀ i, i ≤ n → (out i).length < sizeLine)
    (hs : ∀ i H (Zt : V → Hp → Prop) (Zf : Hp → Prop), i < n → Same H1 H → (∀ y H4, Same H H4 → out (i + 1) = out i ++ [y] → Zt y H4) → (∀ H3, Same H H3 → out (i + 1) = out i → Zf H3) → Turn g tt te vs σ (I i) H Zt Zf)
    (hd : ∀ H, Same H1 H → H D = some (.lst (out n)) → Qd H) : Lc (Itr 0 n) g tt te vs σ H1 D Qd := by
  refine lc_range (lo := 0) (n := n) (fun i H => Same H1 H ∧ H D = some (.lst (out i))) ⟨same_upd hD, by rw [upd_same, h0]⟩ (fun i H lt p => ?_) fun H p => hd H p.1 p.2
  rw [Int.zero_add]
  refine hs i H _ _ lt p.1 (fun y H4 s4 e => ⟨out i, s4 _ _ p.2, few i (Nat.le_of_lt lt), same_D hD (p.1.trans s4), by rw [upd_same, e]⟩) fun H3 s3 e => ⟨p.1.trans s3, by rw [s3 _ _ p.2, e]⟩
end
/-- filter, item by item -/
theorem filter_take {α : Type} (p : α → Bool) {l : List α} {i : Nat} {x : α} (h : l[i]? = some x) : (l.take (i + 1)).filter p = (l.take i).filter p ++ if p x = true then [x] else [] := by
  rw [List.take_add_one, h, List.filter_append]
  congr 1
  show List.filter p [x] = _
  rw [List.filter_cons]
  split <;> rfl
theorem take_all {α : Type} {l : List α} {n : Nat} (h : n = l.length) : l.take n = l := by rw [h, List.take_length]
theorem filter_few {α : Type} (p : α → Bool) (l : List α) (n i : Nat) (h : l.length ≤ n) : ((l.take i).filter p).length ≤ n :=
  Nat.le_trans (List.length_filter_le _ _) (Nat.le_trans (by rw [List.length_take]; exact Nat.min_le_right _ _) h)
theorem range_at {n i : Nat} (h : i < n) : (List.range n)[i]? = some i := by
  rw [List.getElem?_range h]
/-- for: over range(n) from 0, the turn's number in Nat -/
theorem fors_range {n : Nat} {g : TG} {tb : TS} {D : Ends} {σ : L2.St} {H : Hp} (Pv : Nat → L2.St → Hp → Prop) (h0 : Pv 0 σ H)
    (hs : ∀ i σ H, i < n → Pv i σ H → g (I i) σ H fun σ2 H2 => tb { D with nx := Pv (i + 1), ct := Pv (i + 1), bk := D.nx } σ2 H2) (hd : ∀ σ H, Pv n σ H → D.nx σ H) :
    ∃ W : Nat → Nat → L2.St → Hp → Prop, (∃ m, W 0 m σ H) ∧ ∀ i m σ H, W i m σ H →
      ((Itr 0 n).stop i H ∧ D.nx σ H) ∨ ((Itr 0 n).go i H ∧ ∃ N : L2.St → Hp → Prop, (∀ σ' H', N σ' H' → ∃ m', m' < m ∧ W (i + 1) m' σ' H') ∧ ∀ x H', (Itr 0 n).yld i H x H' → g x σ H' fun σ2 H2 => tb { D with nx := N, ct := N, bk := D.nx } σ2 H2) :=
  for_range (lo := 0) (n := n) Pv h0 (fun i σ H hi p => by rw [Int.zero_add]; exact hs i σ H hi p) hd
theorem lt_pow_bits (b : Nat) : b < 2 ^ Builtin.Int.intBits (b : Int) := by
  unfold Builtin.Int.intBits
  by_cases h : b = 0
  · subst h
    decide
  · have h2 : ¬ ((b : Int) == 0) = true := by simpa using h
    simp only [Int.natAbs_natCast]
    rw [if_neg h2]
    exact Nat.lt_log2_self
end Xr
set_option Elab.async false
set_option linter.all false
set_option maxRecDepth 100000
set_option maxHeartbeats 4000000
/-! The walks, 1: place_in, racks_of, is_open, bit_list. -/
namespace Xr
open PySem PySem.Spec PyProof.Rows L2
section
variable {P : Program} {w : World} {K : PySem.W.Frag} {mg : Str → Option Value} {base : Heap} {f : Addr} {fd : FuncData}
/-! ### place_in -/
def spPlace (K : PySem.W.Frag) : Sp := fun vs H Q _ => ∃ (a : Addr) (h : Hall) (c : Nat), vs = [.ref a, I c] ∧ HallOk h ∧ SqT K H a (hallV h) ∧ ∀ p, H p = none → Q (.ref p) (upd H p (.tup [I (c / h.cal), I (c % h.cal)]))
theorem scPlace : FnScope ["hall", "caller"] ["hall", "caller"] (defScope sPlace) := ⟨rfl, rfl, rfl, by decide +kernel, rfl, by decide +kernel, by decide +kernel⟩
theorem ok_place (B : Bi mg) (F : FnP K "place_in" sPlace [] f fd) : FnOk P w K mg base CX0 1 f fd ["hall", "caller"] (spPlace K) := by
  refine F.ok scPlace (fun vs H Q E h => ?_) (fun cdv A outer s H vs Q E hr h => ?_)
  · obtain ⟨a, h, c, rfl, _⟩ := h
    rfl
  · obtain ⟨a, h, c, rfl, hh, ha, q⟩ := h
    refine ⟨_, PSs.nox (pss_one (ps_ret (pe_callB call_divmod (by rfl) B.divmod (by decide +kernel) (pa_cons (pv 1) (pa_cons (pe_ix ix_tup (pv 0) pe_int (fun _ _ => rfl)) pa_nil))))), ?_⟩
    refine ⟨_, rfl, _, rfl, a, _, 1, _, rfl, rfl, ha, atI_nat (j := 1) rfl, _, _, rfl, ?_, fun p hp => ?_⟩
    · have := hh.c1
      have := hh.c2
      exact ⟨by omega, by omega⟩
    · rw [ediv_nat, emod_nat]
      exact q p hp
/-! ### racks_of -/
def spRacks (K : PySem.W.Frag) : Sp := fun vs H Q _ => ∃ (a b : Addr) (h : Hall) (es : List Nat), vs = [.ref a, .ref b] ∧ HallOk h ∧ SqT K H a (hallV h) ∧ SqA K H b (nI es) ∧ EndsIn h es ∧ es.length < 64 ∧
  ∀ H' p, Same H H' → H p = none → H' p = some (.lst (nI (racksOf h es))) → Q (.ref p) H'
theorem scRacks : FnScope ["hall", "ends", "found", "end", "rack"] ["hall", "ends"] (defScope sRacks) := ⟨rfl, rfl, rfl, by decide +kernel, rfl, by decide +kernel, by decide +kernel⟩
theorem ok_racks (B : Bi mg) (F : FnP K "racks_of" sRacks [] f fd) : FnOk P w K mg base CX0 1 f fd ["hall", "ends"] (spRacks K) := by
  refine F.ok scRacks (fun vs H Q E h => ?_) (fun cdv A outer s H vs Q E hr h => ?_)
  · obtain ⟨a, b, h, es, rfl, _⟩ := h
    rfl
  · obtain ⟨a, b, h, es, rfl, hh, ha, hb, he, hl, q⟩ := h
    refine ⟨_, PSs.nox (pss_cons (ps_set (i := 2) scRacks.nd rfl (.inl rfl) (pe_lst pa_nil))
      (pss_cons (ps_for PassesOwn.never rfl (pi_list (pe_callB cr_sortA (by rfl) B.sorted (by decide +kernel) (pa_cons (pv 1) pa_nil))) (pg_name (i := 3) scRacks.nd rfl (.inl rfl))
        (pss_cons (ps_set (i := 4) scRacks.nd rfl (.inl rfl) (pe_op opn_div (pv 3) (pe_ix ix_tup (pv 0) pe_int (fun _ _ => rfl))))
        (pss_one (ps_if (PW.pt (pw_or (pt_cmpR (op_eqD hr.units) (pv 2) (pe_lst pa_nil) (nomark _)) (pw_or1 (pt_cmpR opn_ne (pe_ix ix_list (pv 2) (pe_un un_neg pe_int) (fun _ _ => rfl)) (pv 4) (nomark _)))))
          (pss_one (ps_expr (pe_bm PySem.F.plainAttrs_list PySem.F.slot_list_append PySem.F.type_list_append mt_append (pv 2) (pa_cons (pv 4) pa_nil)))) pss_nil))))
      (pss_one (ps_ret (pv 2))))), ?_⟩
    -- found = []
    refine ⟨Nat.zero_le _, fun o no => ?_⟩
    have s1 : Same H (upd H o (.lst [])) := same_upd no
    -- sorted(ends)
    refine ⟨_, rfl, b, zI es, rfl, by rw [← nI_int]; exact Same.seqA s1 hb, by rw [List.length_map]; exact hl, fun ms p pm ps np => ?_⟩
    obtain ⟨l, el, pl, sl⟩ := nat_perm pm ps
    have s2 := s1.trans (same_upd (o := .lst (ms.map V.int)) np)
    have npo : p ≠ o := fun e => by rw [e, upd_same] at np; cases np
    have hp0 : H p = none := s1.free np
    refine ⟨p, rfl, ⟨_, SqL.of upd_same⟩, ?_⟩
    refine for_list (K := K) (a := p) (xs := nI l) (fun i σ H' => ∃ (f : List Nat) (x y : Option V), σ = [some (.ref a), some (.ref b), some (.ref o), x, y] ∧ Same H H' ∧ H' p = some (.lst (nI l)) ∧ H' o = some (.lst (nI f)) ∧ Ded h l i f)
      ⟨[], none, none, rfl, s2, by rw [upd_same, el], by rw [upd_ne npo.symm, upd_same]; rfl, Ded.zero h l⟩ (fun i σ H' _ ⟨_, _, _, _, _, hp, _⟩ => SqL.of hp) ?_ ?_
    · rintro i x σ H' hi ⟨fo, x0, y0, rfl, sm, hp, ho, dd⟩
      obtain ⟨e, hx, rfl⟩ := nI_at hi
      have hla : fo.length < 64 := by
        have h1 := dd.len
        have h2 := (List.getElem?_eq_some_iff.mp hx).1
        have h3 := pl.length_eq
        omega
      refine ⟨_, rfl, _, rfl, a, _, 4, _, rfl, rfl, Same.seqT sm ha, atI_nat (j := 4) rfl, _, _, rfl, rfl, ?_, ?_⟩
      · have := hh.e1
        have := hh.e2
        exact ⟨by omega, by omega⟩
      -- if found == [] or found[-1] != rack
      refine ⟨_, rfl, Nat.zero_le _, fun r nr => ?_⟩
      have sm2 := sm.trans (same_upd (o := .lst []) nr)
      have nro : o ≠ r := ne_of_none ho nr
      have nrp : p ≠ r := ne_of_none hp nr
      have ho2 : upd H' r (.lst []) o = some (.lst (nI fo)) := by rw [upd_ne nro]; exact ho
      have hp2 : upd H' r (.lst []) p = some (.lst (nI l)) := by rw [upd_ne nrp]; exact hp
      refine rEq_nil (SqL.of ho2) (SqL.of upd_same) (dp_nI fo) (sh_dI fo) ⟨_, rfl, ?_⟩
      have app : fo.getLast? ≠ some (e / h.ends) → ∃ f' x' y', [some (V.ref a), some (V.ref b), some (V.ref o), some (I e), some (I (e / h.ends))] = [some (V.ref a), some (V.ref b), some (V.ref o), x', y'] ∧ Same H (upd (upd H' r (.lst [])) o (.lst (nI fo ++ [I (e / h.ends)]))) ∧
          upd (upd H' r (.lst [])) o (.lst (nI fo ++ [I (e / h.ends)])) p = some (.lst (nI l)) ∧ upd (upd H' r (.lst [])) o (.lst (nI fo ++ [I (e / h.ends)])) o = some (.lst (nI f')) ∧ Ded h l (i + 1) f' := fun hne =>
        ⟨fo ++ [e / h.ends], _, _, rfl, fun c u hc => by
          have hco : c ≠ o := ne_of_none hc no
          rw [upd_ne hco]
          exact sm2 c u hc, by rw [upd_ne npo]; exact hp2, by rw [upd_same]; unfold nI; rw [List.map_append]; rfl, dd.more sl hx hne⟩
      cases hc : (dI fo).isEmpty with
      | true =>
        refine iteT (iteT ?_)
        rw [dI_empty, List.isEmpty_iff] at hc
        refine ⟨_, rfl, .inl ⟨rfl, _, SqL.of ho2⟩, _, rfl, o, _, _, rfl, rfl, ho2, ?_, ?_⟩
        · rw [nI_len, sizeLine_eq]; omega
        · exact app (by rw [hc]; exact fun z => by cases z)
      | false =>
        refine iteF ?_
        rw [dI_empty] at hc
        have hne : fo ≠ [] := fun z => by rw [z] at hc; cases hc
        have hlast := List.getLast?_eq_some_getLast hne
        refine ⟨_, rfl, 1, rfl, o, _, _, _, rfl, rfl, SqL.of ho2, getLast_at hlast, _, rfl, _, _, rfl, rfl, _, rfl, ?_⟩
        by_cases hq : fo.getLast hne = e / h.ends
        · rw [decide_eq_true hq]
          refine iteF ?_
          exact ⟨fo, _, _, rfl, sm2, hp2, ho2, dd.skip hx (by rw [hlast, hq])⟩
        · rw [decide_eq_false hq]
          refine iteT ?_
          refine ⟨_, rfl, .inl ⟨rfl, _, SqL.of ho2⟩, _, rfl, o, _, _, rfl, rfl, ho2, ?_, ?_⟩
          · rw [nI_len, sizeLine_eq]; omega
          · exact app (by rw [hlast]; exact fun z => hq (Option.some.inj z))
    · rintro σ H' ⟨fo, x0, y0, rfl, sm, hp, ho, dd⟩
      rw [nI_len] at dd
      rw [dd.done hh he fun e => pl.mem_iff] at ho
      exact ⟨_, rfl, q H' o sm no ho⟩
/-! ### is_open -/
def spOpen : Sp := fun vs H Q _ => ∃ s k : Nat, vs = [I s, I k] ∧ Q (.bl (!s.testBit k)) H
theorem scOpen : FnScope ["shut", "k"] ["shut", "k"] (defScope sOpen) := ⟨rfl, rfl, rfl, by decide +kernel, rfl, by decide +kernel, by decide +kernel⟩
theorem ok_open (F : FnP K "is_open" sOpen [] f fd) : FnOk P w K mg base CX0 1 f fd ["shut", "k"] spOpen := by
  refine F.ok scOpen (fun vs H Q E h => ?_) (fun cdv A outer s H vs Q E hr h => ?_)
  · obtain ⟨s, k, rfl, _⟩ := h
    rfl
  · obtain ⟨s, k, rfl, q⟩ := h
    refine ⟨_, PSs.nox (pss_one (ps_ret (pe_cmpR opn_eq (pe_op opn_and (pe_op opn_shr (pv 0) (pv 1)) pe_int) pe_int (nomark _)))), ?_⟩
    refine ⟨_, rfl, _, rfl, _, _, rfl, rfl, _, 1, rfl, rfl, _, 0, rfl, rfl, ?_⟩
    show Q (.bl (decide (s >>> k &&& 1 = 0))) H
    rw [open_bit]
    exact q
end
end Xr
set_option Elab.async false
set_option linter.all false
set_option maxRecDepth 100000
set_option maxHeartbeats 4000000
/-! The walks, 2: bit_list, in_bits, out_bits. -/
namespace Xr
open PySem PySem.Spec PyProof.Rows L2
/-! ### lists of masks -/
def masks (n : Nat) (p : Nat → Cl → Bool) (cs : List Cl) : List Nat := (List.range n).map fun r => bitsOf (p r) cs
theorem masks_len (n : Nat) (p : Nat → Cl → Bool) (cs : List Cl) : (masks n p cs).length = n := by
  unfold masks
  rw [List.length_map, List.length_range]
theorem map_at {α : Type} {n r : Nat} (g : Nat → α) (h : r < n) : ((List.range n).map g)[r]? = some (g r) := by
  rw [List.getElem?_map, range_at h]
  rfl
theorem map_set {n r : Nat} {f g : Nat → Nat} {v : Nat} (h : r < n) (hv : v = g r) (hne : ∀ j, j ≠ r → f j = g j) : ((List.range n).map f).set r v = (List.range n).map g := by
  refine List.ext_getElem? fun j => ?_
  by_cases e : j = r
  · subst e
    rw [List.getElem?_set_self (by rw [List.length_map, List.length_range]; exact h), map_at g h, hv]
  · rw [List.getElem?_set_ne (fun z => e z.symm)]
    rcases Nat.lt_or_ge j n with hj | hj
    · rw [map_at f hj, map_at g hj, hne j e]
    · rw [List.getElem?_eq_none (by rw [List.length_map, List.length_range]; exact hj), List.getElem?_eq_none (by rw [List.length_map, List.length_range]; exact hj)]
theorem nI_set (l : List Nat) (r v : Nat) : (nI l).set r (I v) = nI (l.set r v) := by
  unfold nI
  rw [List.map_set]
theorem nI_zero (n : Nat) : (List.replicate n [V.int 0]).flatten = nI (List.replicate n 0) := by
  induction n with
  | zero => rfl
  | succ n ih =>
    rw [List.replicate_succ, List.flatten_cons, ih]
    rfl
theorem masks_zero (n : Nat) (p : Nat → Cl → Bool) : masks n p [] = List.replicate n 0 := by
  unfold masks
  refine List.ext_getElem? fun j => ?_
  rcases Nat.lt_or_ge j n with hj | hj
  · rw [map_at _ hj, List.getElem?_replicate, if_pos hj]
    rfl
  · rw [List.getElem?_eq_none (by rw [List.length_map, List.length_range]; exact hj), List.getElem?_eq_none (by rw [List.length_replicate]; exact hj)]
theorem ixN_of {n j : Nat} (h : j < n) : ixN n (j : Int) = some j := by
  unfold ixN
  rw [if_pos (Int.natCast_nonneg j), if_pos (by omega), Int.toNat_natCast]
theorem cls_take {ts : List (Addr × Cl)} {i : Nat} {t : Addr × Cl} (h : ts[i]? = some t) : cls (ts.take (i + 1)) = cls (ts.take i) ++ [t.2] := by
  show List.map _ _ = _
  rw [List.take_add_one, h, List.map_append]
  rfl
section
variable {P : Program} {w : World} {K : PySem.W.Frag} {mg : Str → Option Value} {base : Heap} {f : Addr} {fd : FuncData}
/-! ### bit_list -/
def spBitl : Sp := fun vs H Q _ => ∃ b n : Nat, vs = [I b] ∧ b < 2 ^ n ∧ n ≤ 1000 ∧ ∀ H' p, Same H H' → H p = none → H' p = some (.lst (nI (bitList n b))) → Q (.ref p) H'
theorem scBitl : FnScope ["bits", "place"] ["bits"] (defScope sBitl) := ⟨rfl, rfl, rfl, by decide +kernel, rfl, by decide +kernel, by decide +kernel⟩
theorem bits_le {b n : Nat} (h : b < 2 ^ n) : Builtin.Int.intBits (b : Int) ≤ n := by
  unfold Builtin.Int.intBits
  by_cases e : b = 0
  · subst e
    exact Nat.zero_le _
  · have h2 : ¬ ((b : Int) == 0) = true := by simpa using e
    rw [if_neg h2, Int.natAbs_natCast]
    exact (Nat.log2_lt e).2 h
theorem ok_bitl (B : Bi mg) (F : FnP K "bit_list" sBitl [] f fd) : FnOk P w K mg base CX0 1 f fd ["bits"] spBitl := by
  refine F.ok scBitl (fun vs H Q E h => ?_) (fun cdv A outer s H vs Q E hr h => ?_)
  · obtain ⟨b, n, rfl, _⟩ := h
    rfl
  · obtain ⟨b, n, rfl, hb, hn, q⟩ := h
    refine ⟨_, PSs.nox (pss_one (ps_ret (pe_lc (own := [("place", 1)]) (g := gName 1) rfl scBitl.nd (pi_range1 (by rfl) B.range (pa_cons (pe_bits (pv 0)) pa_nil)) (blkOk_by (own := [("place", 1)]) (N := ["bits", "place"]) (sc := defScope sBitl) (by decide +kernel))
      (fun _ _ _ _ _ => pg_name (i := 1) scBitl.nd rfl (Or.inl rfl)) (fun _ _ _ _ _ => pts_one (pt_cmpR opn_eq (pe_op opn_and (pe_op opn_shr (pv 0) (pv 1)) pe_int) pe_int (nomark _))) (fun _ _ _ _ _ => pv 1)))), ?_⟩
    have hle := bits_le hb
    refine ⟨_, rfl, b, rfl, _, rfl, by omega, by omega, fun D hD => ?_⟩
    rw [Int.toNat_natCast]
    refine lcs_range (fun i => nI ((List.range i).filter fun k => b.testBit k)) hD rfl (fun i hi => ?_) (fun i H' Zt Zf hi sm zt zf => ?_) fun H' sm hH => ?_
    · have h1 := List.length_filter_le (fun k => b.testBit k) (List.range i)
      rw [List.length_range] at h1
      rw [nI_len, sizeLine_eq]
      omega
    · refine ⟨rfl, _, rfl, _, rfl, _, _, rfl, rfl, _, 1, rfl, rfl, _, 1, rfl, rfl, _, rfl, ?_⟩
      have e1 : nI ((List.range (i + 1)).filter fun k => b.testBit k) = nI ((List.range i).filter fun k => b.testBit k) ++ if b.testBit i = true then [I i] else [] := by
        rw [List.range_succ, List.filter_append]
        unfold nI
        rw [List.map_append]
        congr 1
        rw [List.filter_cons]
        split <;> rfl
      rw [set_bit]
      cases hbit : b.testBit i with
      | true =>
        refine iteT ?_
        rw [hbit] at e1
        exact ⟨_, rfl, zt _ _ (Same.refl _) e1⟩
      | false =>
        refine iteF ?_
        rw [hbit] at e1
        exact zf _ (Same.refl _) (by rw [e1]; exact List.append_nil _)
    · refine q H' D sm hD ?_
      rw [hH, bitList_any hb (lt_pow_bits b)]
      rfl
/-! ### in_bits -/
def spInb (K : PySem.W.Frag) : Sp := fun vs H Q _ => ∃ (a b : Addr) (h : Hall) (ts : List (Addr × Cl)), vs = [.ref a, .ref b] ∧ HallOk h ∧ SqT K H a (hallV h) ∧ CallsAt K H b ts ∧ (∀ t, t ∈ ts → ClOk h t.2) ∧
  ∀ H' p, Same H H' → H p = none → H' p = some (.lst (nI (masks h.ins (inP h) (cls ts)))) → Q (.ref p) H'
theorem scInb : FnScope ["hall", "calls", "found", "caller", "ends", "k", "rack"] ["hall", "calls"] (defScope sInb) := ⟨rfl, rfl, rfl, by decide +kernel, rfl, by decide +kernel, by decide +kernel⟩
theorem rack_lt {h : Hall} (hh : HallOk h) {d : Cl} (ok : ClOk h d) : d.c / h.cal < h.ins := Nat.div_lt_of_lt_mul (by rw [Nat.mul_comm]; exact ok.c)
theorem ok_inb (F : FnP K "in_bits" sInb [] f fd) : FnOk P w K mg base CX0 1 f fd ["hall", "calls"] (spInb K) := by
  refine F.ok scInb (fun vs H Q E h => ?_) (fun cdv A outer s H vs Q E hr h => ?_)
  · obtain ⟨a, b, h, ts, rfl, _⟩ := h
    rfl
  · obtain ⟨a, b, h, ts, rfl, hh, ha, hb, hok, q⟩ := h
    refine ⟨_, PSs.nox (pss_cons (ps_set (i := 2) scInb.nd rfl (.inl rfl) (pe_op op_rep (pe_lst (pa_cons pe_int pa_nil)) (pe_ix ix_tup (pv 0) pe_int (fun _ _ => rfl))))
      (pss_cons (ps_for PassesOwn.never rfl (pi_list (pv 1)) (pg_tup rfl (pgs_cons (pg_name (i := 3) scInb.nd rfl (.inl rfl)) (pgs_cons (pg_name (i := 4) scInb.nd rfl (.inl rfl)) (pgs_cons (pg_name (i := 5) scInb.nd rfl (.inl rfl)) pgs_nil))))
        (pss_cons (ps_set (i := 6) scInb.nd rfl (.inl rfl) (pe_op opn_div (pv 3) (pe_ix ix_tup (pv 0) pe_int (fun _ _ => rfl))))
        (pss_one (ps_asg (pe_op opn_or (pe_ix ix_list (pv 2) (pv 6) (fun _ _ => rfl)) (pe_op opn_shl1 pe_int (pv 5))) (pg_sub (pv 2) (pv 6) set_list)))))
      (pss_one (ps_ret (pv 2))))), ?_⟩
    have i2 := hh.i2
    refine ⟨by show 1 ≤ sizeLine; decide, fun r nr => ?_⟩
    have s1 : Same H (upd H r (.lst [V.int 0])) := same_upd nr
    refine ⟨_, rfl, a, _, 0, _, rfl, rfl, Same.seqT s1 ha, atI_nat (j := 0) rfl, r, _, _, rfl, rfl, upd_same, by omega, by omega, by rw [Int.toNat_natCast, sizeLine_eq]; show 1 * h.ins ≤ _; omega, fun o no => ?_⟩
    have nro : H o = none := s1.free no
    have s2 := s1.trans (same_upd (o := .lst (List.replicate ((h.ins : Int)).toNat [V.int 0]).flatten) no)
    refine ⟨_, rfl, b, rfl, ⟨_, (hb.same s2).at_⟩, ?_⟩
    refine for_list (K := K) (a := b) (xs := refs ts) (fun i σ H' => ∃ (x3 x4 x5 x6 : Option V), σ = [some (.ref a), some (.ref b), some (.ref o), x3, x4, x5, x6] ∧ Same H H' ∧ H' o = some (.lst (nI (masks h.ins (inP h) (cls (ts.take i))))))
      ⟨none, none, none, none, rfl, s2, by rw [upd_same, Int.toNat_natCast, nI_zero]; show _ = some (HO.lst (nI (masks h.ins (inP h) []))); rw [masks_zero]⟩ (fun i σ H' _ ⟨_, _, _, _, _, sm, _⟩ => (hb.same sm).at_) ?_ ?_
    · rintro i x σ H' hi ⟨x3, x4, x5, x6, rfl, sm, ho⟩
      obtain ⟨t, ht, rfl⟩ := refs_at hi
      have hm : t ∈ ts := List.mem_of_getElem? ht
      obtain ⟨e, h1, h2⟩ := (hb.same sm).each t hm
      have ok := hok t hm
      have lt := rack_lt hh ok
      have k24 := ok.k
      have a24 := hh.a2
      have c12 := hh.c2
      refine ⟨t.1, _, rfl, h1, rfl, _, _, rfl, _, _, rfl, _, _, rfl, rfl, ?_⟩
      refine ⟨_, rfl, _, rfl, a, _, 1, _, rfl, rfl, Same.seqT sm ha, atI_nat (j := 1) rfl, _, _, rfl, rfl, ⟨hh.c1, by omega⟩, ?_⟩
      refine ⟨_, rfl, _, rfl, o, _, _, _, rfl, rfl, SqL.of ho, atI_nat (nI_get (map_at (fun r => bitsOf (inP h r) (cls (ts.take i))) lt)), _, rfl, t.2.k, rfl, rfl, by omega, _, _, rfl, rfl, ?_⟩
      refine ⟨_, rfl, _, rfl, o, _, _, _, rfl, rfl, ho, ixN_of (by rw [nI_len, masks_len]; exact lt), ?_⟩
      refine ⟨_, _, _, _, rfl, fun c u hc => ?_, ?_⟩
      · rw [upd_ne (ne_of_none hc nro)]
        exact sm c u hc
      · rw [upd_same, nI_set, cls_take ht]
        refine congrArg (fun l => some (HO.lst (nI l))) (map_set lt ?_ fun j hj => ?_)
        · rw [bits_snoc, if_pos (by unfold inP; exact beq_self_eq_true _)]
        · rw [bits_snoc, if_neg (by unfold inP; rw [beq_iff_eq]; exact fun z => hj z.symm)]
    · rintro σ H' ⟨x3, x4, x5, x6, rfl, sm, ho⟩
      rw [take_all (by rw [List.length_map])] at ho
      exact ⟨_, rfl, q H' o sm nro ho⟩
end
end Xr
set_option Elab.async false
set_option linter.all false
set_option maxRecDepth 100000
set_option maxHeartbeats 4000000
/-! The walks, 3: out_bits, holders. -/
namespace Xr
open PySem PySem.Spec PyProof.Rows L2
theorem inV_nI (r : Nat) : ∀ l : List Nat, inV (I r) (nI l) = l.contains r
  | [] => rfl
  | n :: l => by
    have ih := inV_nI r l
    unfold inV at ih ⊢
    show (eqV (I n) (I r) || (nI l).any fun y => eqV y (I r)) = _
    rw [ih, List.contains_cons]
    have e : eqV (I n) (I r) = (r == n) := by
      show ((n : Int) == (r : Int)) = _
      rw [Bool.eq_iff_iff, beq_iff_eq, beq_iff_eq]
      omega
    rw [e]
theorem flat_nI : ∀ l : List Nat, (nI l).all flatV = true
  | [] => rfl
  | n :: l => flat_nI l
/-- lists of lists of numbers: f j stands at qs[j] -/
structure KeptAt (H : Hp) (p : Addr) (qs : List Addr) (f : Nat → List Nat) : Prop where
  at_ : H p = some (.lst (qs.map V.ref))
  each : ∀ (j : Nat) (q : Addr), qs[j]? = some q → H q = some (.lst (nI (f j)))
theorem kept_snoc (h : Hall) (cs : List Cl) (d : Cl) (c : Nat) (es : List Nat) (k : Nat) : kept h (cs ++ [d]) c es k = kept h cs c es k ++ if (d.k == k && meets h d c es) = true then [d.c] else [] := by
  unfold kept
  rw [List.filter_append, List.map_append]
  congr 1
  rw [List.filter_cons]
  split <;> rfl
theorem shared_any (h : Hall) (es : List Nat) (d : Cl) : (!(nI ((racksOf h d.es).filter fun r => (racksOf h es).contains r)).isEmpty) = (racksOf h es).any fun r => outP h r d := by
  rw [Bool.eq_iff_iff, Bool.not_eq_true', ← Bool.not_eq_true, List.isEmpty_iff]
  unfold nI
  rw [List.map_eq_nil_iff, List.filter_eq_nil_iff, List.any_eq_true]
  unfold outP
  constructor
  · intro z
    refine Classical.byContradiction fun n => z fun r hr hc => n ⟨r, List.contains_iff_mem.mp hc, List.contains_iff_mem.mpr hr⟩
  · rintro ⟨r, h1, h2⟩ z
    exact z r (List.contains_iff_mem.mp h2) (List.contains_iff_mem.mpr h1)
section
variable {P : Program} {w : World} {K : PySem.W.Frag} {mg : Str → Option Value} {base : Heap} {f : Addr} {fd : FuncData}
/-! ### out_bits -/
def spOutb (K : PySem.W.Frag) : Sp := fun vs H Q _ => ∃ (a b : Addr) (h : Hall) (ts : List (Addr × Cl)), vs = [.ref a, .ref b] ∧ HallOk h ∧ SqT K H a (hallV h) ∧ CallsAt K H b ts ∧ (∀ t, t ∈ ts → ClOk h t.2) ∧
  ∀ H' p, Same H H' → H p = none → H' p = some (.lst (nI (masks h.outs (outP h) (cls ts)))) → Q (.ref p) H'
theorem scOutb : FnScope ["hall", "calls", "found", "caller", "ends", "k", "rack"] ["hall", "calls"] (defScope sOutb) := ⟨rfl, rfl, rfl, by decide +kernel, rfl, by decide +kernel, by decide +kernel⟩
theorem ok_outb (F : FnP K "out_bits" sOutb [] f fd) (hR : Has P w K mg base "racks_of" 1 ["hall", "ends"] (spRacks K)) : FnOk P w K mg base CX0 2 f fd ["hall", "calls"] (spOutb K) := by
  refine F.ok scOutb (fun vs H Q E h => ?_) (fun cdv A outer s H vs Q E hr h => ?_)
  · obtain ⟨a, b, h, ts, rfl, _⟩ := h
    rfl
  · obtain ⟨a, b, h, ts, rfl, hh, ha, hb, hok, q⟩ := h
    refine ⟨_, PSs.nox (pss_cons (ps_set (i := 2) scOutb.nd rfl (.inl rfl) (pe_op op_rep (pe_lst (pa_cons pe_int pa_nil)) (pe_ix ix_tup (pv 0) pe_int (fun _ _ => rfl))))
      (pss_cons (ps_for PassesOwn.never rfl (pi_list (pv 1)) (pg_tup rfl (pgs_cons (pg_name (i := 3) scOutb.nd rfl (.inl rfl)) (pgs_cons (pg_name (i := 4) scOutb.nd rfl (.inl rfl)) (pgs_cons (pg_name (i := 5) scOutb.nd rfl (.inl rfl)) pgs_nil))))
        (pss_one (ps_for PassesOwn.never rfl (pi_list (pe_has hR hr (by decide) (pa_cons (pv 0) (pa_cons (pv 4) pa_nil)))) (pg_name (i := 6) scOutb.nd rfl (.inl rfl))
          (pss_one (ps_asg (pe_op opn_or (pe_ix ix_list (pv 2) (pv 6) (fun _ _ => rfl)) (pe_op opn_shl1 pe_int (pv 5))) (pg_sub (pv 2) (pv 6) set_list))))))
      (pss_one (ps_ret (pv 2))))), ?_⟩
    have o2 := hh.o2
    refine ⟨by show 1 ≤ sizeLine; decide, fun r nr => ?_⟩
    have s1 : Same H (upd H r (.lst [V.int 0])) := same_upd nr
    refine ⟨_, rfl, a, _, 3, _, rfl, rfl, Same.seqT s1 ha, atI_nat (j := 3) rfl, r, _, _, rfl, rfl, upd_same, by omega, by omega, by rw [Int.toNat_natCast, sizeLine_eq]; show 1 * h.outs ≤ _; omega, fun o no => ?_⟩
    have nro : H o = none := s1.free no
    have s2 := s1.trans (same_upd (o := .lst (List.replicate ((h.outs : Int)).toNat [V.int 0]).flatten) no)
    refine ⟨_, rfl, b, rfl, ⟨_, (hb.same s2).at_⟩, ?_⟩
    refine for_list (K := K) (a := b) (xs := refs ts) (fun i σ H' => ∃ (x3 x4 x5 x6 : Option V), σ = [some (.ref a), some (.ref b), some (.ref o), x3, x4, x5, x6] ∧ Same H H' ∧ H' o = some (.lst (nI (masks h.outs (outP h) (cls (ts.take i))))))
      ⟨none, none, none, none, rfl, s2, by rw [upd_same, Int.toNat_natCast, nI_zero]; show _ = some (HO.lst (nI (masks h.outs (outP h) []))); rw [masks_zero]⟩ (fun i σ H' _ ⟨_, _, _, _, _, sm, _⟩ => (hb.same sm).at_) ?_ ?_
    · rintro i x σ H' hi ⟨x3, x4, x5, x6, rfl, sm, ho⟩
      obtain ⟨t, ht, rfl⟩ := refs_at hi
      have hm : t ∈ ts := List.mem_of_getElem? ht
      obtain ⟨e, h1, h2⟩ := (hb.same sm).each t hm
      have ok := hok t hm
      have k24 := ok.k
      have a24 := hh.a2
      have few := ok.few
      refine ⟨t.1, _, rfl, h1, rfl, _, _, rfl, _, _, rfl, _, _, rfl, rfl, ?_⟩
      refine ⟨_, rfl, _, rfl, a, e, h, t.2.es, rfl, hh, Same.seqT sm ha, .inr h2, ok.es, by omega, fun H2 p sm2 np hp => ?_⟩
      have sm3 := sm.trans sm2
      have npo : p ≠ o := fun z => by rw [z, ho] at np; cases np
      refine ⟨p, rfl, ⟨_, SqL.of hp⟩, ?_⟩
      refine for_list (K := K) (a := p) (xs := nI (racksOf h t.2.es)) (fun j σ H' => ∃ (x6 : Option V), σ = [some (.ref a), some (.ref b), some (.ref o), some (I t.2.c), some (.ref e), some (I t.2.k), x6] ∧ Same H H' ∧ H' p = some (.lst (nI (racksOf h t.2.es))) ∧
          H' o = some (.lst (nI ((List.range h.outs).map fun r => if ((racksOf h t.2.es).take j).contains r = true then bitsOf (outP h r) (cls (ts.take i)) ||| 2 ^ t.2.k else bitsOf (outP h r) (cls (ts.take i))))))
        ⟨x6, rfl, sm3, hp, by rw [sm2 _ _ ho]; rfl⟩ (fun j σ H' _ ⟨_, _, _, hp', _⟩ => SqL.of hp') ?_ ?_
      · rintro j y σ H3 hj ⟨x6', rfl, sm4, hp4, ho4⟩
        obtain ⟨r, hr1, rfl⟩ := nI_at hj
        have lt : r < h.outs := racks_lt (List.mem_of_getElem? hr1)
        have nin : ((racksOf h t.2.es).take j).contains r = false := by
          rw [← Bool.not_eq_true, List.contains_iff_mem]
          intro z
          obtain ⟨j', hj', e'⟩ := List.mem_iff_getElem.mp z
          rw [List.length_take] at hj'
          rw [List.getElem_take] at e'
          obtain ⟨hj2, e2⟩ := List.getElem?_eq_some_iff.mp hr1
          have := List.pairwise_iff_getElem.mp (racks_strict h t.2.es) j' j (by omega) hj2 (by omega)
          rw [e', e2] at this
          exact Nat.lt_irrefl _ this
        refine ⟨_, rfl, _, rfl, o, _, _, _, rfl, rfl, SqL.of ho4, atI_nat (nI_get (map_at _ lt)), _, rfl, t.2.k, rfl, rfl, by omega, _, _, rfl, rfl, ?_⟩
        refine ⟨_, rfl, _, rfl, o, _, _, _, rfl, rfl, ho4, ixN_of (by rw [nI_len, List.length_map, List.length_range]; exact lt), ?_⟩
        refine ⟨_, rfl, fun c u hc => ?_, by rw [upd_ne npo]; exact hp4, ?_⟩
        · rw [upd_ne (ne_of_none hc nro)]
          exact sm4 c u hc
        · rw [upd_same, nI_set]
          refine congrArg (fun l => some (HO.lst (nI l))) (map_set lt ?_ fun j' hj' => ?_)
          · rw [nin]
            have yes : ((racksOf h t.2.es).take (j + 1)).contains r = true := List.contains_iff_mem.mpr ((mem_take_succ hr1 r).2 (.inr rfl))
            rw [if_pos yes]
            rfl
          · have same : ((racksOf h t.2.es).take (j + 1)).contains j' = ((racksOf h t.2.es).take j).contains j' := by
              rw [Bool.eq_iff_iff, List.contains_iff_mem, List.contains_iff_mem, mem_take_succ hr1]
              exact ⟨fun z => z.elim id fun z => absurd z hj', .inl⟩
            rw [same]
      · rintro σ H3 ⟨x6', rfl, sm4, hp4, ho4⟩
        refine ⟨_, _, _, _, rfl, sm4, ?_⟩
        rw [ho4, take_all (by rw [nI_len]), cls_take ht]
        refine congrArg (fun l => some (HO.lst (nI l))) ?_
        unfold masks
        refine List.map_congr_left fun r _ => ?_
        rw [bits_snoc]
        rfl
    · rintro σ H' ⟨x3, x4, x5, x6, rfl, sm, ho⟩
      rw [take_all (by rw [List.length_map])] at ho
      exact ⟨_, rfl, q H' o sm nro ho⟩
end
end Xr
set_option Elab.async false
set_option linter.all false
set_option maxRecDepth 100000
set_option maxHeartbeats 4000000
/-! The walks, 4: holders. -/
namespace Xr
open PySem PySem.Spec PyProof.Rows L2
theorem snoc_at {α : Type} {l : List α} {x : α} {j : Nat} {y : α} (h : (l ++ [x])[j]? = some y) : l[j]? = some y ∨ (j = l.length ∧ y = x) := by
  rcases Nat.lt_or_ge j l.length with hj | hj
  · rw [List.getElem?_append_left hj] at h
    exact .inl h
  · rw [List.getElem?_append_right hj] at h
    have : j - l.length = 0 := by
      rcases Nat.eq_zero_or_pos (j - l.length) with z | z
      · exact z
      · rw [List.getElem?_eq_none (by show 1 ≤ j - l.length; omega)] at h
        cases h
    rw [this] at h
    exact .inr ⟨by omega, (Option.some.inj h).symm⟩
section
variable {P : Program} {w : World} {K : PySem.W.Frag} {mg : Str → Option Value} {base : Heap} {f : Addr} {fd : FuncData}
/-! ### holders -/
def spHold (K : PySem.W.Frag) : Sp := fun vs H Q _ => ∃ (a b e : Addr) (h : Hall) (ts : List (Addr × Cl)) (c : Nat) (es : List Nat), vs = [.ref a, .ref b, I c, .ref e] ∧ HallOk h ∧ SqT K H a (hallV h) ∧ CallsAt K H b ts ∧ (∀ t, t ∈ ts → ClOk h t.2) ∧
  SqA K H e (nI es) ∧ EndsIn h es ∧ es.length < 64 ∧ ts.length ≤ 1000 ∧
  ∀ H' p qs, Same H H' → H p = none → qs.length = h.amid → (∀ q, q ∈ qs → H q = none) → KeptAt H' p qs (kept h (cls ts) c es) → Q (.ref p) H'
theorem scHold : FnScope ["hall", "calls", "caller", "ends", "rack", "racks", "found", "call", "shared", "k", "one"] ["hall", "calls", "caller", "ends"] (defScope sHold) := ⟨rfl, rfl, rfl, by decide +kernel, rfl, by decide +kernel, by decide +kernel⟩
theorem ok_hold (B : Bi mg) (F : FnP K "holders" sHold [] f fd) (hP : Has P w K mg base "place_in" 1 ["hall", "caller"] (spPlace K)) (hR : Has P w K mg base "racks_of" 1 ["hall", "ends"] (spRacks K)) :
    FnOk P w K mg base CX0 2 f fd ["hall", "calls", "caller", "ends"] (spHold K) := by
  refine F.ok scHold (fun vs H Q E h => ?_) (fun cdv A outer s H vs Q E hr h => ?_)
  · obtain ⟨a, b, e, h, ts, c, es, rfl, _⟩ := h
    rfl
  · obtain ⟨a, b, e, h, ts, c, es, rfl, hh, ha, hb, hok, he, hin, few, fewc, q⟩ := h
    have hu := hu_of hr
    refine ⟨_, PSs.nox (pss_cons (ps_set (i := 4) scHold.nd rfl (.inl rfl) (pe_ix ix_tup (pe_has hP hr (by decide) (pa_cons (pv 0) (pa_cons (pv 2) pa_nil))) pe_int (fun _ _ => rfl)))
      (pss_cons (ps_set (i := 5) scHold.nd rfl (.inr rfl) (pe_has hR hr (by decide) (pa_cons (pv 0) (pa_cons (pv 3) pa_nil))))
      (pss_cons (ps_setLc (i := 6) (own := [("k", 9)]) (g := gName 9) rfl scHold.nd rfl rfl (sw_true rfl rfl rfl (by decide +kernel)) (pi_range1 (by rfl) B.range (pa_cons (pe_ix ix_tup (pv 0) pe_int (fun _ _ => rfl)) pa_nil))
        (blkOk_by (own := [("k", 9)]) (N := ["hall", "calls", "caller", "ends", "rack", "racks", "found", "call", "shared", "k", "one"]) (sc := defScope sHold) (by decide +kernel))
        (fun _ _ _ _ _ => pg_name (i := 9) scHold.nd rfl (Or.inl rfl)) (fun _ _ _ _ _ => pts_nil) (fun _ _ _ _ _ => pe_lst pa_nil))
      (pss_cons (ps_for PassesOwn.never rfl (pi_list (pv 1)) (pg_name (i := 7) scHold.nd rfl (.inl rfl))
        (pss_cons (ps_setLc (i := 8) (own := [("one", 10)]) (g := gName 10) rfl scHold.nd rfl rfl (sw_true rfl rfl rfl (by decide +kernel)) (pi_list (pe_has hR hr (by decide) (pa_cons (pv 0) (pa_cons (pe_ix ix_tup (pv 7) pe_int (fun _ _ => rfl)) pa_nil))))
          (blkOk_by (own := [("one", 10)]) (N := ["hall", "calls", "caller", "ends", "rack", "racks", "found", "call", "shared", "k", "one"]) (sc := defScope sHold) (by decide +kernel))
          (fun _ _ _ _ _ => pg_name (i := 10) scHold.nd rfl (Or.inl rfl)) (fun _ _ _ _ _ => pts_one (pt_cmpR (inK K) (pv 10) (pv 5) (by rfl))) (fun _ _ _ _ _ => pv 10))
        (pss_one (ps_if (PW.pt (pw_or (pt_cmpR opn_eq (pe_ix ix_tup (pe_has hP hr (by decide) (pa_cons (pv 0) (pa_cons (pe_ix ix_tup (pv 7) pe_int (fun _ _ => rfl)) pa_nil))) pe_int (fun _ _ => rfl)) (pv 4) (nomark _)) (pw_or1 (pt_cmpR (op_neD hr.units) (pv 8) (pe_lst pa_nil) (nomark _)))))
          (pss_one (ps_expr (pe_bm PySem.F.plainAttrs_list PySem.F.slot_list_append PySem.F.type_list_append mt_append (pe_ix ix_list (pv 6) (pe_ix ix_tup (pv 7) pe_int (fun _ _ => rfl)) (fun _ _ => rfl)) (pa_cons (pe_ix ix_tup (pv 7) pe_int (fun _ _ => rfl)) pa_nil)))) pss_nil))))
      (pss_one (ps_ret (pv 6))))))), ?_⟩
    have a2 := hh.a2
    -- rack, racks
    refine ⟨_, rfl, _, rfl, a, h, c, rfl, hh, ha, fun p0 n0 => ?_⟩
    have s0 : Same H (upd H p0 (.tup [I (c / h.cal), I (c % h.cal)])) := same_upd n0
    refine ⟨p0, _, 0, _, rfl, rfl, SqT.of upd_same, atI_nat (j := 0) rfl, ?_⟩
    refine ⟨_, rfl, _, rfl, a, e, h, es, rfl, hh, Same.seqT s0 ha, Same.seqA s0 he, hin, few, fun H1 r sm1 nr hr1 => ?_⟩
    have s1 := s0.trans sm1
    -- found
    refine ⟨_, rfl, a, _, 2, _, rfl, rfl, Same.seqT s1 ha, atI_nat (j := 2) rfl, _, rfl, by omega, by omega, fun D nD => ?_⟩
    have HD : H D = none := s1.free nD
    rw [Int.toNat_natCast]
    refine lc_range (lo := 0) (n := h.amid) (fun i H' => ∃ qs : List Addr, qs.length = i ∧ Same H1 H' ∧ H' D = some (.lst (qs.map V.ref)) ∧ qs.Nodup ∧ (∀ q, q ∈ qs → H1 q = none ∧ H' q = some (.lst [])))
      ⟨[], rfl, same_upd nD, by rw [upd_same]; rfl, List.nodup_nil, fun q hq => by cases hq⟩ (fun i H2 hi ⟨qs, hl, sm, hD, nd, hq⟩ => ?_) fun H2 ⟨qs, hl, sm, hD, nd, hq⟩ => ?_
    · refine ⟨rfl, Nat.zero_le _, fun z nz => ?_⟩
      have zD : D ≠ z := ne_of_none hD nz
      refine ⟨qs.map V.ref, by rw [upd_ne zD]; exact hD, by rw [List.length_map, hl, sizeLine_eq]; omega, qs ++ [z], by rw [List.length_append, hl]; rfl, fun b u hu => ?_, by rw [upd_same, List.map_append]; rfl, ?_, fun y hy => ?_⟩
      · rw [upd_ne (ne_of_none hu nD)]
        exact (sm.trans (same_upd nz)) b u hu
      · refine List.nodup_append.mpr ⟨nd, List.nodup_cons.mpr ⟨by simp, List.nodup_nil⟩, fun x hx y hy => ?_⟩
        rw [List.mem_singleton.mp hy]
        exact ne_of_none (hq x hx).2 nz
      · rcases List.mem_append.mp hy with hy | hy
        · have h2 := (hq y hy).2
          have yD : y ≠ D := fun w => by
            rw [w, hD] at h2
            have h3 := congrArg List.length (HO.lst.inj (Option.some.inj h2))
            rw [w] at hy
            rw [List.length_map] at h3
            have := List.length_pos_of_mem hy
            rw [h3] at this
            exact Nat.lt_irrefl _ this
          exact ⟨(hq y hy).1, by rw [upd_ne yD, upd_ne (ne_of_none h2 nz)]; exact h2⟩
        · rw [List.mem_singleton.mp hy]
          exact ⟨sm.free nz, by rw [upd_ne zD.symm, upd_same]⟩
    -- the loop over the calls
    have s2 := s1.trans sm
    have nDq : ∀ q, q ∈ qs → q ≠ D := fun y hy w => by
      have h2 := (hq y hy).2
      rw [w, hD] at h2
      have h3 := congrArg List.length (HO.lst.inj (Option.some.inj h2))
      rw [w] at hy
      rw [List.length_map] at h3
      have := List.length_pos_of_mem hy
      rw [h3] at this
      exact Nat.lt_irrefl _ this
    have hr2 : H2 r = some (.lst (nI (racksOf h es))) := sm _ _ hr1
    have Hqn : ∀ y, y ∈ qs → H y = none := fun y hy => s1.free (hq y hy).1
    have rq : ∀ y, y ∈ qs → r ≠ y := fun y hy => ne_of_none hr1 (hq y hy).1
    refine ⟨_, rfl, b, rfl, ⟨_, (hb.same s2).at_⟩, ?_⟩
    refine for_list (K := K) (a := b) (xs := refs ts) (fun i σ H' => ∃ (x7 x8 : Option V), σ = [some (.ref a), some (.ref b), some (I c), some (.ref e), some (I (c / h.cal)), some (.ref r), some (.ref D), x7, x8, none, none] ∧ Same H H' ∧ H' r = some (.lst (nI (racksOf h es))) ∧
        KeptAt H' D qs (kept h (cls (ts.take i)) c es))
      ⟨none, none, rfl, s2, hr2, hD, fun j y hy => by rw [(hq y (List.mem_of_getElem? hy)).2]; rfl⟩ (fun i σ H' _ ⟨_, _, _, sm, _⟩ => (hb.same sm).at_) ?_ ?_
    · rintro i x σ H3 hi ⟨x7, x8, rfl, sm3, hr3, hk3⟩
      obtain ⟨t, ht, rfl⟩ := refs_at hi
      have hm : t ∈ ts := List.mem_of_getElem? ht
      obtain ⟨eq, h1, h2⟩ := (hb.same sm3).each t hm
      have ok := hok t hm
      have fewt := ok.few
      -- shared = [..]
      refine ⟨_, rfl, _, rfl, t.1, _, 1, _, rfl, rfl, h1, atI_nat (j := 1) rfl, a, eq, h, t.2.es, rfl, hh, Same.seqT sm3 ha, .inr h2, ok.es, by omega, fun H4 p sm4 np hp => ?_⟩
      refine ⟨p, rfl, ⟨_, SqL.of hp⟩, fun S nS => ?_⟩
      refine lcs_list (K := K) (a := p) (xs := nI (racksOf h t.2.es)) (fun i => nI (((racksOf h t.2.es).take i).filter fun r => (racksOf h es).contains r)) nS (SqL.of hp) rfl (fun i hi => ?_) (fun j y H5 Zt Zf hj sm5 zt zf => ?_) fun H5 sm5 hS => ?_
      · have l12 := racks_len hh t.2.es
        have := filter_few (fun r => (racksOf h es).contains r) (racksOf h t.2.es) 12 i l12
        rw [nI_len, sizeLine_eq]
        omega
      · obtain ⟨r', hr', rfl⟩ := nI_at hj
        have st : nI (((racksOf h t.2.es).take (j + 1)).filter fun r => (racksOf h es).contains r) = nI (((racksOf h t.2.es).take j).filter fun r => (racksOf h es).contains r) ++ if (racksOf h es).contains r' = true then [I r'] else [] := by
          rw [filter_take _ hr']
          unfold nI
          rw [List.map_append]
          congr 1
          split <;> rfl
        refine ⟨rfl, _, rfl, _, rfl, r, _, rfl, .inl (SqL.of (sm5 _ _ (sm4 _ _ hr3))), rfl, flat_nI _, _, rfl, ?_⟩
        show if (inV (I r') (nI (racksOf h es))) = true then _ else _
        rw [inV_nI]
        cases hc : (racksOf h es).contains r' with
        | true =>
          rw [hc] at st
          exact iteT ⟨_, rfl, zt _ _ (Same.refl _) st⟩
        | false =>
          rw [hc] at st
          exact iteF (zf _ (Same.refl _) (by rw [st]; exact List.append_nil _))
      rw [take_all (by rw [nI_len])] at hS
      have sm6 := (sm3.trans sm4).trans sm5
      have sm36 := sm4.trans sm5
      have hr5 := sm36 _ _ hr3
      have hk5 : KeptAt H5 D qs (kept h (cls (ts.take i)) c es) := ⟨sm36 _ _ hk3.at_, fun j y hy => sm36 _ _ (hk3.each j y hy)⟩
      -- if place_in(..)[0] == rack or shared != []
      have h15 : SqT K H5 t.1 [I t.2.c, .ref eq, I t.2.k] := Same.seqT sm36 h1
      refine ⟨_, rfl, _, rfl, t.1, _, 0, _, rfl, rfl, h15, atI_nat (j := 0) rfl, a, h, t.2.c, rfl, hh, Same.seqT sm6 ha, fun p6 n6 => ?_⟩
      have s6 : Same H5 (upd H5 p6 (.tup [I (t.2.c / h.cal), I (t.2.c % h.cal)])) := same_upd n6
      refine ⟨p6, _, 0, _, rfl, rfl, SqT.of upd_same, atI_nat (j := 0) rfl, _, rfl, _, _, rfl, rfl, _, rfl, ?_⟩
      have ltk : t.2.k < qs.length := by rw [hl]; exact ok.k
      obtain ⟨y, hy⟩ : ∃ y, qs[t.2.k]? = some y := ⟨qs[t.2.k], List.getElem?_eq_getElem ltk⟩
      have hym := List.mem_of_getElem? hy
      have lenk : (kept h (cls (ts.take i)) c es t.2.k).length ≤ 1000 := by
        unfold kept
        rw [List.length_map]
        refine Nat.le_trans (List.length_filter_le _ _) ?_
        rw [List.length_map, List.length_take]
        exact Nat.le_trans (Nat.min_le_right _ _) fewc
      -- the append, whatever heap it begins in
      have app : ∀ H7, Same H5 H7 → meets h t.2 c es = true → ∀ (x7 x8 : Option V),
          ∃ (x7' x8' : Option V), [some (V.ref a), some (V.ref b), some (I c), some (V.ref e), some (I (c / h.cal)), some (V.ref r), some (V.ref D), x7, x8, none, none] = [some (V.ref a), some (V.ref b), some (I c), some (V.ref e), some (I (c / h.cal)), some (V.ref r), some (V.ref D), x7', x8', none, none] ∧
            Same H (upd H7 y (.lst (nI (kept h (cls (ts.take i)) c es t.2.k) ++ [I t.2.c]))) ∧ upd H7 y (.lst (nI (kept h (cls (ts.take i)) c es t.2.k) ++ [I t.2.c])) r = some (.lst (nI (racksOf h es))) ∧
            KeptAt (upd H7 y (.lst (nI (kept h (cls (ts.take i)) c es t.2.k) ++ [I t.2.c]))) D qs (kept h (cls (ts.take (i + 1))) c es) := fun H7 s7 hmt x7 x8 => by
        refine ⟨x7, x8, rfl, fun b u hu => ?_, ?_, ?_, fun j z hz => ?_⟩
        · rw [upd_ne (ne_of_none hu (Hqn y hym))]
          exact s7 _ _ (sm6 b u hu)
        · rw [upd_ne (rq y hym)]
          exact s7 _ _ hr5
        · rw [upd_ne (nDq y hym).symm]
          exact s7 _ _ hk5.at_
        · rw [cls_take ht, kept_snoc]
          by_cases ej : j = t.2.k
          · subst ej
            have ez : z = y := Option.some.inj (hz.symm.trans hy)
            rw [ez, upd_same, if_pos (by rw [hmt]; simp)]
            unfold nI
            rw [List.map_append]
            rfl
          · have zy : z ≠ y := fun w => ej (nd_ix nd hz (by rw [w]; exact hy))
            rw [upd_ne zy, if_neg (by rw [Bool.and_eq_true, beq_iff_eq]; exact fun w => ej w.1.symm), List.append_nil]
            exact s7 _ _ (hk5.each j z hz)
      have idle : ∀ H7, Same H5 H7 → meets h t.2 c es = false → ∀ (x7 x8 : Option V),
          ∃ (x7' x8' : Option V), [some (V.ref a), some (V.ref b), some (I c), some (V.ref e), some (I (c / h.cal)), some (V.ref r), some (V.ref D), x7, x8, none, none] = [some (V.ref a), some (V.ref b), some (I c), some (V.ref e), some (I (c / h.cal)), some (V.ref r), some (V.ref D), x7', x8', none, none] ∧
            Same H H7 ∧ H7 r = some (.lst (nI (racksOf h es))) ∧ KeptAt H7 D qs (kept h (cls (ts.take (i + 1))) c es) := fun H7 s7 hmt x7 x8 => by
        refine ⟨x7, x8, rfl, sm6.trans s7, s7 _ _ hr5, s7 _ _ hk5.at_, fun j z hz => ?_⟩
        rw [cls_take ht, kept_snoc, if_neg (by rw [hmt, Bool.and_false]; exact Bool.false_ne_true), List.append_nil]
        exact s7 _ _ (hk5.each j z hz)
      have hin : decide (t.2.c / h.cal = c / h.cal) = inP h (c / h.cal) t.2 := by
        unfold inP
        rw [Bool.eq_iff_iff, decide_eq_true_eq, beq_iff_eq]
      rw [hin]
      cases hp1 : inP h (c / h.cal) t.2 with
      | true =>
        refine iteT (iteT ?_)
        have hmt : meets h t.2 c es = true := by unfold meets; rw [hp1]; rfl
        refine ⟨_, rfl, _, rfl, t.1, _, 2, _, rfl, rfl, Same.seqT s6 h15, atI_nat (j := 2) rfl, D, _, _, _, rfl, rfl, SqL.of (s6 _ _ hk5.at_), atI_nat (by rw [List.getElem?_map, hy]; rfl), ?_⟩
        refine ⟨.inl ⟨rfl, _, SqL.of (s6 _ _ (hk5.each _ _ hy))⟩, _, rfl, t.1, _, 0, _, rfl, rfl, Same.seqT s6 h15, atI_nat (j := 0) rfl, y, _, _, rfl, rfl, s6 _ _ (hk5.each _ _ hy), by rw [nI_len, sizeLine_eq]; omega, ?_⟩
        exact app _ s6 hmt _ _
      | false =>
        refine iteF ?_
        refine ⟨_, rfl, Nat.zero_le _, fun z nz => ?_⟩
        have s7 : Same H5 (upd (upd H5 p6 (.tup [I (t.2.c / h.cal), I (t.2.c % h.cal)])) z (.lst [])) := s6.trans (same_upd nz)
        refine rNe_nil (SqL.of (s7 _ _ hS)) (SqL.of upd_same) (dp_nI _) (sh_dI _) ⟨_, rfl, ?_⟩
        have e8 : (!(dI ((racksOf h t.2.es).filter fun r => (racksOf h es).contains r)).isEmpty) = (racksOf h es).any fun r => outP h r t.2 := by
          rw [← shared_any, dI_empty]
          unfold nI
          rw [List.isEmpty_map]
        rw [e8]
        cases hp2 : (racksOf h es).any fun r => outP h r t.2 with
        | true =>
          refine iteT ?_
          have hmt : meets h t.2 c es = true := by unfold meets; rw [hp1, hp2]; rfl
          refine ⟨_, rfl, _, rfl, t.1, _, 2, _, rfl, rfl, Same.seqT s7 h15, atI_nat (j := 2) rfl, D, _, _, _, rfl, rfl, SqL.of (s7 _ _ hk5.at_), atI_nat (by rw [List.getElem?_map, hy]; rfl), ?_⟩
          refine ⟨.inl ⟨rfl, _, SqL.of (s7 _ _ (hk5.each _ _ hy))⟩, _, rfl, t.1, _, 0, _, rfl, rfl, Same.seqT s7 h15, atI_nat (j := 0) rfl, y, _, _, rfl, rfl, s7 _ _ (hk5.each _ _ hy), by rw [nI_len, sizeLine_eq]; omega, ?_⟩
          exact app _ s7 hmt _ _
        | false =>
          refine iteF ?_
          have hmt : meets h t.2 c es = false := by unfold meets; rw [hp1, hp2]; rfl
          exact idle _ s7 hmt _ _
    · rintro σ H' ⟨x7, x8, rfl, sm3, hr3, hk3⟩
      rw [take_all (by rw [List.length_map])] at hk3
      exact ⟨_, rfl, q H' D qs sm3 HD hl Hqn hk3⟩
end
end Xr
set_option Elab.async false
set_option linter.all false
set_option maxRecDepth 100000
set_option maxHeartbeats 4000000
/-! The walks, 5: ways, count_of. -/
namespace Xr
open PySem PySem.Spec PyProof.Rows L2
def maskTo (h : Hall) (cs : List Cl) (c shut : Nat) (rs : List Nat) : Nat := rs.foldl (fun a r => a ||| bitsOf (outP h r) cs) (shut ||| bitsOf (inP h (c / h.cal)) cs)
theorem mask_step {h : Hall} {cs : List Cl} {c shut r j : Nat} {rs : List Nat} (hr : rs[j]? = some r) : maskTo h cs c shut (rs.take (j + 1)) = maskTo h cs c shut (rs.take j) ||| bitsOf (outP h r) cs := by
  unfold maskTo
  rw [List.take_add_one, hr, List.foldl_append]
  rfl
theorem div_lt {h : Hall} {c : Nat} (hc : c < h.ins * h.cal) : c / h.cal < h.ins := Nat.div_lt_of_lt_mul (by rw [Nat.mul_comm]; exact hc)
section
variable {P : Program} {w : World} {K : PySem.W.Frag} {mg : Str → Option Value} {base : Heap} {f : Addr} {fd : FuncData}
/-! ### ways -/
def spWays (K : PySem.W.Frag) : Sp := fun vs H Q _ => ∃ (a b e : Addr) (h : Hall) (ts : List (Addr × Cl)) (c : Nat) (es : List Nat) (shut : Nat), vs = [.ref a, .ref b, I c, .ref e, I shut] ∧ HallOk h ∧ SqT K H a (hallV h) ∧ CallsAt K H b ts ∧ (∀ t, t ∈ ts → ClOk h t.2) ∧
  SqA K H e (nI es) ∧ EndsIn h es ∧ es.length < 64 ∧ c < h.ins * h.cal ∧
  ∀ H' p, Same H H' → H p = none → H' p = some (.lst (nI (free h (cls ts) c es shut))) → Q (.ref p) H'
theorem scWays : FnScope ["hall", "calls", "caller", "ends", "shut", "held", "lines", "rack", "k"] ["hall", "calls", "caller", "ends", "shut"] (defScope sWays) := ⟨rfl, rfl, rfl, by decide +kernel, rfl, by decide +kernel, by decide +kernel⟩
theorem ok_ways (B : Bi mg) (F : FnP K "ways" sWays [.int 0] f fd) (hP : Has P w K mg base "place_in" 1 ["hall", "caller"] (spPlace K)) (hR : Has P w K mg base "racks_of" 1 ["hall", "ends"] (spRacks K))
    (hI : Has P w K mg base "in_bits" 1 ["hall", "calls"] (spInb K)) (hO : Has P w K mg base "out_bits" 2 ["hall", "calls"] (spOutb K)) (hQ : Has P w K mg base "is_open" 1 ["shut", "k"] spOpen) :
    FnOk P w K mg base CX0 3 f fd ["hall", "calls", "caller", "ends", "shut"] (spWays K) := by
  refine F.ok scWays (fun vs H Q E h => ?_) (fun cdv A outer s H vs Q E hr h => ?_)
  · obtain ⟨a, b, e, h, ts, c, es, shut, rfl, _⟩ := h
    rfl
  · obtain ⟨a, b, e, h, ts, c, es, shut, rfl, hh, ha, hb, hok, he, hin, few, hc, q⟩ := h
    refine ⟨_, PSs.nox (pss_cons (ps_set (i := 5) scWays.nd rfl (.inr rfl) (pe_op opn_or (pv 4) (pe_ix ix_list (pe_has hI hr (by decide) (pa_cons (pv 0) (pa_cons (pv 1) pa_nil)))
          (pe_ix ix_tup (pe_has hP hr (by decide) (pa_cons (pv 0) (pa_cons (pv 2) pa_nil))) pe_int (fun _ _ => rfl)) (fun _ _ => rfl))))
      (pss_cons (ps_set (i := 6) scWays.nd rfl (.inl rfl) (pe_has hO hr (by decide) (pa_cons (pv 0) (pa_cons (pv 1) pa_nil))))
      (pss_cons (ps_for PassesOwn.never rfl (pi_list (pe_has hR hr (by decide) (pa_cons (pv 0) (pa_cons (pv 3) pa_nil)))) (pg_name (i := 7) scWays.nd rfl (.inl rfl))
        (pss_one (ps_set (i := 5) scWays.nd rfl (.inr rfl) (pe_op opn_or (pv 5) (pe_ix ix_list (pv 6) (pv 7) (fun _ _ => rfl))))))
      (pss_one (ps_ret (pe_lc (own := [("k", 8)]) (g := gName 8) rfl scWays.nd (pi_range1 (by rfl) B.range (pa_cons (pe_ix ix_tup (pv 0) pe_int (fun _ _ => rfl)) pa_nil))
        (blkOk_by (own := [("k", 8)]) (N := ["hall", "calls", "caller", "ends", "shut", "held", "lines", "rack", "k"]) (sc := defScope sWays) (by decide +kernel))
        (fun _ _ _ _ _ => pg_name (i := 8) scWays.nd rfl (Or.inl rfl)) (fun _ _ _ _ _ => pts_one (pt_val (pe_has hQ hr (by decide) (pa_cons (pv 5) (pa_cons (pv 8) pa_nil))))) (fun _ _ _ _ _ => pv 8))))))), ?_⟩
    have a2 := hh.a2
    have ltc := div_lt hc
    -- held
    refine ⟨_, rfl, _, rfl, _, rfl, a, b, h, ts, rfl, hh, ha, hb, hok, fun H1 p1 sm1 n1 hp1 => ?_⟩
    refine ⟨_, rfl, _, rfl, a, h, c, rfl, hh, Same.seqT sm1 ha, fun p2 n2 => ?_⟩
    have sm2 := sm1.trans (same_upd (o := .tup [I (c / h.cal), I (c % h.cal)]) n2)
    have hp12 := (same_upd (o := .tup [I (c / h.cal), I (c % h.cal)]) n2) _ _ hp1
    refine ⟨p2, _, 0, _, rfl, rfl, SqT.of upd_same, atI_nat (j := 0) rfl, p1, _, _, _, rfl, rfl, SqL.of hp12, atI_nat (nI_get (map_at (fun r => bitsOf (inP h r) (cls ts)) ltc)), _, _, rfl, rfl, ?_⟩
    -- lines
    refine ⟨_, rfl, _, rfl, a, b, h, ts, rfl, hh, Same.seqT sm2 ha, hb.same sm2, hok, fun H3 o sm3' no ho => ?_⟩
    have sm3 := sm2.trans sm3'
    -- the racks
    refine ⟨_, rfl, _, rfl, a, e, h, es, rfl, hh, Same.seqT sm3 ha, Same.seqA sm3 he, hin, few, fun H4 r sm4' nr hr4 => ?_⟩
    have sm4 := sm3.trans sm4'
    have ho4 := sm4' _ _ ho
    refine ⟨r, rfl, ⟨_, SqL.of hr4⟩, ?_⟩
    refine for_list (K := K) (a := r) (xs := nI (racksOf h es)) (fun i σ H' => ∃ (x7 : Option V), σ = [some (.ref a), some (.ref b), some (I c), some (.ref e), some (I shut), some (I (maskTo h (cls ts) c shut ((racksOf h es).take i))), some (.ref o), x7, none] ∧ H' = H4)
      ⟨none, rfl, rfl⟩ (fun i σ H' _ ⟨_, _, e4⟩ => by rw [e4]; exact SqL.of hr4) ?_ ?_
    · rintro i x σ H' hi ⟨x7, rfl, rfl⟩
      obtain ⟨k, hk, rfl⟩ := nI_at hi
      have lt : k < h.outs := racks_lt (List.mem_of_getElem? hk)
      refine ⟨_, rfl, _, rfl, _, rfl, o, _, _, _, rfl, rfl, SqL.of ho4, atI_nat (nI_get (map_at (fun r => bitsOf (outP h r) (cls ts)) lt)), _, _, rfl, rfl, ?_⟩
      rw [mask_step hk]
      exact ⟨_, rfl, rfl⟩
    · rintro σ H' ⟨x7, rfl, rfl⟩
      rw [take_all (by rw [nI_len])]
      refine ⟨_, rfl, a, _, 2, _, rfl, rfl, Same.seqT sm4 ha, atI_nat (j := 2) rfl, _, rfl, by omega, by omega, fun D nD => ?_⟩
      rw [Int.toNat_natCast]
      refine lcs_range (fun i => nI ((List.range i).filter fun k => !(mask h (cls ts) c es shut).testBit k)) nD rfl (fun i hi => ?_) (fun i H5 Zt Zf hi sm5 zt zf => ?_) fun H5 sm5 hD => ?_
      · have h1 := List.length_filter_le (fun k => !(mask h (cls ts) c es shut).testBit k) (List.range i)
        rw [List.length_range] at h1
        rw [nI_len, sizeLine_eq]
        omega
      · refine ⟨rfl, _, rfl, _, rfl, _, _, rfl, _, rfl, ?_⟩
        show if (!(mask h (cls ts) c es shut).testBit i) = true then _ else _
        have e1 : nI ((List.range (i + 1)).filter fun k => !(mask h (cls ts) c es shut).testBit k) = nI ((List.range i).filter fun k => !(mask h (cls ts) c es shut).testBit k) ++ if (!(mask h (cls ts) c es shut).testBit i) = true then [I i] else [] := by
          rw [List.range_succ, List.filter_append]
          unfold nI
          rw [List.map_append]
          congr 1
          rw [List.filter_cons]
          split <;> rfl
        cases hbit : !(mask h (cls ts) c es shut).testBit i with
        | true =>
          rw [hbit] at e1
          exact iteT ⟨_, rfl, zt _ _ (Same.refl _) e1⟩
        | false =>
          rw [hbit] at e1
          exact iteF (zf _ (Same.refl _) (by rw [e1]; exact List.append_nil _))
      · refine q H5 D (sm4.trans sm5) (sm4.free nD) ?_
        rw [hD]
        unfold free
        refine congrArg (fun l => some (HO.lst (nI l))) (List.filter_congr fun k _ => mask_bit)
/-! ### count_of -/
def spCount (K : PySem.W.Frag) : Sp := fun vs H Q _ => ∃ (a b e : Addr) (h : Hall) (ts : List (Addr × Cl)) (c : Nat) (es : List Nat) (shut : Nat), vs = [.ref a, .ref b, I c, .ref e, I shut] ∧ HallOk h ∧ SqT K H a (hallV h) ∧ CallsAt K H b ts ∧ (∀ t, t ∈ ts → ClOk h t.2) ∧
  SqA K H e (nI es) ∧ EndsIn h es ∧ es.length < 64 ∧ c < h.ins * h.cal ∧ shut < 2 ^ h.amid ∧
  ∀ H' p q, Same H H' → H' p = some (.tup [I (cIn h (cls ts) c shut), .ref q, I (ready h shut).length]) → H' q = some (.lst (nI ((racksOf h es).map (cOut h (cls ts) shut)))) → Q (.ref p) H'
theorem scCount : FnScope ["hall", "calls", "caller", "ends", "shut", "ready", "held", "lines", "far", "rack"] ["hall", "calls", "caller", "ends", "shut"] (defScope sCount) := ⟨rfl, rfl, rfl, by decide +kernel, rfl, by decide +kernel, by decide +kernel⟩
theorem bits_lt {n : Nat} (p : Cl → Bool) : ∀ cs : List Cl, (∀ d, d ∈ cs → d.k < n) → bitsOf p cs < 2 ^ n := by
  intro cs h
  refine Nat.lt_of_not_le fun z => ?_
  obtain ⟨i, hi, hb⟩ := Nat.exists_ge_and_testBit_of_ge_two_pow z
  rw [bits_at] at hb
  obtain ⟨d, hd, hb⟩ := List.any_eq_true.mp hb
  have := h d hd
  have := beq_iff_eq.mp (Bool.and_eq_true_iff.mp hb).2
  omega
theorem ok_count (B : Bi mg) (F : FnP K "count_of" sCount [.int 0] f fd) (hP : Has P w K mg base "place_in" 1 ["hall", "caller"] (spPlace K)) (hR : Has P w K mg base "racks_of" 1 ["hall", "ends"] (spRacks K))
    (hI : Has P w K mg base "in_bits" 1 ["hall", "calls"] (spInb K)) (hO : Has P w K mg base "out_bits" 2 ["hall", "calls"] (spOutb K)) (hL : Has P w K mg base "bit_list" 1 ["bits"] spBitl) :
    FnOk P w K mg base CX0 3 f fd ["hall", "calls", "caller", "ends", "shut"] (spCount K) := by
  refine F.ok scCount (fun vs H Q E h => ?_) (fun cdv A outer s H vs Q E hr h => ?_)
  · obtain ⟨a, b, e, h, ts, c, es, shut, rfl, _⟩ := h
    rfl
  · obtain ⟨a, b, e, h, ts, c, es, shut, rfl, hh, ha, hb, hok, he, hin, few, hc, hs, q⟩ := h
    refine ⟨_, PSs.nox (pss_cons (ps_set (i := 5) scCount.nd rfl (.inr rfl) (pe_op opn_xor (pe_op opn_sub (pe_op opn_shl1 pe_int (pe_ix ix_tup (pv 0) pe_int (fun _ _ => rfl))) pe_int) (pv 4)))
      (pss_cons (ps_set (i := 6) scCount.nd rfl (.inl rfl) (pe_op opn_and (pe_ix ix_list (pe_has hI hr (by decide) (pa_cons (pv 0) (pa_cons (pv 1) pa_nil)))
          (pe_ix ix_tup (pe_has hP hr (by decide) (pa_cons (pv 0) (pa_cons (pv 2) pa_nil))) pe_int (fun _ _ => rfl)) (fun _ _ => rfl)) (pv 5)))
      (pss_cons (ps_set (i := 7) scCount.nd rfl (.inr rfl) (pe_has hO hr (by decide) (pa_cons (pv 0) (pa_cons (pv 1) pa_nil))))
      (pss_cons (ps_setLc (i := 8) (own := [("rack", 9)]) (g := gName 9) rfl scCount.nd rfl rfl (sw_true rfl rfl rfl (by decide +kernel)) (pi_list (pe_has hR hr (by decide) (pa_cons (pv 0) (pa_cons (pv 3) pa_nil))))
          (blkOk_by (own := [("rack", 9)]) (N := ["hall", "calls", "caller", "ends", "shut", "ready", "held", "lines", "far", "rack"]) (sc := defScope sCount) (by decide +kernel))
          (fun _ _ _ _ _ => pg_name (i := 9) scCount.nd rfl (Or.inl rfl)) (fun _ _ _ _ _ => pts_nil)
          (fun _ _ _ _ _ => pe_callB (lenK K) (by rfl) B.len (by decide +kernel) (pa_cons (pe_has hL hr (by decide) (pa_cons (pe_op opn_and (pe_ix (ixL K) (pv 7) (pv 9) (fun _ _ => rfl)) (pv 5)) pa_nil)) pa_nil)))
      (pss_one (ps_ret (pe_tup (pa_cons (pe_callB call_len_seq (by rfl) B.len (by decide +kernel) (pa_cons (pe_has hL hr (by decide) (pa_cons (pv 6) pa_nil)) pa_nil)) (pa_cons (pv 8)
          (pa_cons (pe_callB call_len_seq (by rfl) B.len (by decide +kernel) (pa_cons (pe_has hL hr (by decide) (pa_cons (pv 5) pa_nil)) pa_nil)) pa_nil)))))))))), ?_⟩
    have a2 := hh.a2
    have ltc := div_lt hc
    have p1 := Nat.two_pow_pos h.amid
    have kok : ∀ d, d ∈ cls ts → d.k < h.amid := fun d hd => by
      obtain ⟨t, ht, rfl⟩ := List.mem_map.mp hd
      exact (hok t ht).k
    have rlt := ready_lt (h := h) hs
    -- ready
    refine ⟨_, rfl, a, _, 2, _, rfl, rfl, ha, atI_nat (j := 2) rfl, h.amid, rfl, rfl, by omega, _, 1, rfl, rfl, p1, _, rfl, _, _, rfl, rfl, ?_⟩
    -- held
    refine ⟨_, rfl, _, rfl, a, b, h, ts, rfl, hh, ha, hb, hok, fun H1 q1 sm1 n1 hq1 => ?_⟩
    refine ⟨_, rfl, _, rfl, a, h, c, rfl, hh, Same.seqT sm1 ha, fun p2 n2 => ?_⟩
    have sm2 := sm1.trans (same_upd (o := .tup [I (c / h.cal), I (c % h.cal)]) n2)
    have hq12 := (same_upd (o := .tup [I (c / h.cal), I (c % h.cal)]) n2) _ _ hq1
    refine ⟨p2, _, 0, _, rfl, rfl, SqT.of upd_same, atI_nat (j := 0) rfl, q1, _, _, _, rfl, rfl, SqL.of hq12, atI_nat (nI_get (map_at (fun r => bitsOf (inP h r) (cls ts)) ltc)), _, rfl, _, _, rfl, rfl, ?_⟩
    -- lines
    refine ⟨_, rfl, _, rfl, a, b, h, ts, rfl, hh, Same.seqT sm2 ha, hb.same sm2, hok, fun H3 o sm3' no ho => ?_⟩
    have sm3 := sm2.trans sm3'
    -- far
    refine ⟨_, rfl, _, rfl, a, e, h, es, rfl, hh, Same.seqT sm3 ha, Same.seqA sm3 he, hin, few, fun H4 r sm4' nr hr4 => ?_⟩
    have sm4 := sm3.trans sm4'
    have ho4 := sm4' _ _ ho
    refine ⟨r, rfl, ⟨_, SqL.of hr4⟩, fun D nD => ?_⟩
    refine lcs_list (K := K) (a := r) (xs := nI (racksOf h es)) (fun i => nI (((racksOf h es).take i).map (cOut h (cls ts) shut))) nD (SqL.of hr4) rfl (fun i hi => ?_) (fun i x H5 Zt Zf hi sm5 zt zf => ?_) fun H5 sm5 hD => ?_
    · have l12 := racks_len hh es
      rw [nI_len, List.length_map, List.length_take, sizeLine_eq]
      have := Nat.min_le_right i (racksOf h es).length
      omega
    · obtain ⟨k, hk, rfl⟩ := nI_at hi
      have lt : k < h.outs := racks_lt (List.mem_of_getElem? hk)
      refine ⟨rfl, _, rfl, _, rfl, o, _, _, _, rfl, rfl, SqL.of (sm5 _ _ ho4), atI_nat (nI_get (map_at (fun r => bitsOf (outP h r) (cls ts)) lt)), _, rfl, _, _, rfl, rfl, ?_⟩
      refine ⟨_, h.amid, rfl, Nat.lt_of_le_of_lt Nat.and_le_left (bits_lt _ _ kok), by omega, fun H6 l sm6 nl hl => ?_⟩
      refine ⟨l, _, rfl, .inl (SqL.of hl), ?_⟩
      refine zt _ _ sm6 ?_
      rw [List.take_add_one, hk, List.map_append]
      unfold nI
      rw [List.map_append]
      congr 1
      rw [List.length_map]
      show [I (cOut h (cls ts) shut k)] = [I _]
      congr 2
      unfold cOut
      have e0 : bitsOf (outP h k) (cls ts) &&& (2 ^ h.amid - 1 ^^^ shut) = bitsOf (outP h k) (cls ts) &&& readyBits h shut := rfl
      rw [e0, bitList_and hs]
    -- the answer
    have sm5' := sm4.trans sm5
    rw [take_all (by rw [nI_len])] at hD
    refine ⟨_, rfl, _, h.amid, rfl, Nat.lt_of_le_of_lt Nat.and_le_left (bits_lt _ _ kok), by omega, fun H6 l sm6 nl hl => ?_⟩
    refine ⟨l, _, rfl, .inl (SqL.of hl), _, rfl, _, rfl, _, h.amid, rfl, rlt, by omega, fun H7 m sm7 nm hm => ?_⟩
    refine ⟨m, _, rfl, .inl (SqL.of hm), by show 3 ≤ sizeLine; decide, fun p np => ?_⟩
    have sm8 : Same H7 (upd H7 p (.tup [V.int ((nI (bitList h.amid (bitsOf (inP h (c / h.cal)) (cls ts) &&& (2 ^ h.amid - 1 ^^^ shut)))).length : Nat), .ref D, V.int ((nI (bitList h.amid (2 ^ h.amid - 1 ^^^ shut))).length : Nat)])) := same_upd np
    refine q _ p D (((sm5'.trans sm6).trans sm7).trans sm8) ?_ (sm8 _ _ (sm7 _ _ (sm6 _ _ hD)))
    rw [upd_same]
    have e1 : (nI (bitList h.amid (bitsOf (inP h (c / h.cal)) (cls ts) &&& (2 ^ h.amid - 1 ^^^ shut)))).length = cIn h (cls ts) c shut := by
      rw [nI_len]
      exact congrArg List.length (bitList_and hs _ _)
    have e2 : (nI (bitList h.amid (2 ^ h.amid - 1 ^^^ shut))).length = (ready h shut).length := by
      rw [nI_len]
      exact congrArg List.length (bitList_ready hs)
    rw [e1, e2]
end
end Xr
set_option Elab.async false
set_option linter.all false
set_option maxRecDepth 100000
set_option maxHeartbeats 4000000
/-! A for over a name that holds a list or a tuple; further operators. -/
namespace Xr
open PySem PySem.Spec PyProof.Rows L2
def iAny (K : PySem.W.Frag) (i : Nat) : TI := fun σ H R => ∃ (a : Addr) (xs : List V) (H0 : Hp), σ[i]? = some (some (.ref a)) ∧ SqA K H0 a xs ∧ Same H0 H ∧ ∀ (J : It) (G : Hp → Prop), Walk J xs.length G (YAt xs) → (∀ H', Same H0 H' → G H') → R J H
theorem pi_any {X : Cx} {tg : Expr} (i : Nat) {x : Str} {pos : Pos} (hN : X.N[i]? = some x := by rfl) (hv : Vis X.env.scope x := by first | exact Or.inl rfl | exact Or.inr (Or.inl rfl) | exact Or.inr (Or.inr rfl))
    (hd : (x == ("__debug__" : Str)) = false := by decide) (hcd : (x == ("__classdict__" : Str)) = false := by decide) : PI X tg (.Name x pos) (iAny X.K i) := by
  refine ⟨fun pins s σ H R I h => ?_⟩
  obtain ⟨a, xs, H0, hs, hq, s0, q⟩ := h
  rcases hq with hq | hq
  · exact (pi_list (pv i hN hv hd hcd)).run pins s σ H R I ⟨_, hs, a, rfl, ⟨xs, Same.seq s0 hq⟩, q _ _ walk_list fun H' sm => Same.seq sm hq⟩
  · exact (pi_tup (pv i hN hv hd hcd)).run pins s σ H R I ⟨_, hs, a, rfl, ⟨xs, Same.seqT s0 hq⟩, q _ _ walk_tup fun H' sm => Same.seqT sm hq⟩
section
variable {X : Cx}
/-- z % m, z any whole number -/
theorem opz_mod : OpR X (binaryOp .Mod) (fun x y H Q => ∃ (z : Int) (m : Nat), x = .int z ∧ y = I m ∧ 1 ≤ m ∧ ∀ n : Nat, n < m → Q (I n) H) := opr_of op_mod fun x y H Q ⟨z, m, e1, e2, c, q⟩ => ⟨z, _, e1, e2, by omega, by
  have h0 : 0 ≤ z % (m : Int) := Int.emod_nonneg _ (by omega)
  have h1 : z % (m : Int) < (m : Int) := Int.emod_lt_of_pos _ (by omega)
  have e : z % (m : Int) = ((z % (m : Int)).toNat : Int) := (Int.toNat_of_nonneg h0).symm
  show Q (V.int (z % (m : Int))) H
  rw [e]
  exact q _ (by omega)⟩
/-- 10 ** 18 -/
theorem opn_ten : OpR X (binaryOp .Pow) (fun x y H Q => x = .int 10 ∧ y = .int 18 ∧ Q (I (10 ^ 18)) H) := opr_of op_pow fun x y H Q ⟨e1, e2, q⟩ => ⟨10, 18, e1, e2, ⟨by decide, by decide, by decide⟩, by
  have e : ((10 : Int) ^ (18 : Int).toNat) = ((10 ^ 18 : Nat) : Int) := by decide
  show Q (V.int ((10 : Int) ^ (18 : Int).toNat)) H
  rw [e]
  exact q⟩
/-- abs -/
theorem calln_abs : CallR X (.builtin "abs") (fun xs H Q => ∃ i, xs = [.int i] ∧ ∀ n : Nat, Q (I n) H) := fun pins s σ H xs us Q I r h => by
  obtain ⟨i, e, q⟩ := h
  refine call_abs pins s σ H xs us Q I r ⟨i, e, ?_⟩
  have e2 : (if i < 0 then -i else i) = ((i.natAbs : Nat) : Int) := by split <;> omega
  rw [e2]
  exact q _
end
end Xr
set_option Elab.async false
set_option linter.all false
set_option maxRecDepth 100000
set_option maxHeartbeats 4000000
/-! The walks, 6: the law's helpers: a cell, the hall, ends, a number. -/
namespace Xr
open PySem PySem.Spec PyProof.Rows L2
section
variable {P : Program} {w : World} {K : PySem.W.Frag} {mg : Str → Option Value} {base : Heap} {f : Addr} {fd : FuncData}
/-! ### _law_cell_at -/
def spCellAt (K : PySem.W.Frag) : Sp := fun vs H Q _ => ∃ (a : Addr) (ns : List Int) (k : Nat), vs = [.ref a, I k] ∧ SqL K H a (ns.map V.int) ∧ ∀ z : Int, Q (.int z) H
theorem scCellAt : FnScope ["_law_script", "_law_k"] ["_law_script", "_law_k"] (defScope sCell) := ⟨rfl, rfl, rfl, by decide +kernel, rfl, by decide +kernel, by decide +kernel⟩
theorem ok_cellAt (B : Bi mg) (F : FnP K "_law_cell_at" sCell [] f fd) : FnOk P w K mg base CX0 1 f fd ["_law_script", "_law_k"] (spCellAt K) := by
  refine F.ok scCellAt (fun vs H Q E h => ?_) (fun cdv A outer s H vs Q E hr h => ?_)
  · obtain ⟨a, ns, k, rfl, _⟩ := h
    rfl
  · obtain ⟨a, ns, k, rfl, hS, q⟩ := h
    refine ⟨_, PSs.nox (pss_cons (ps_if (pt_cmpR opn_lt (pv 1) (pe_callB (lenK K) (by rfl) B.len (by decide +kernel) (pa_cons (pv 0) pa_nil)) (nomark _)) (pss_one (ps_ret (pe_ix ix_list (pv 0) (pv 1) (fun _ _ => rfl)))) pss_nil)
      (pss_one (ps_ret pe_int))), ?_⟩
    refine ⟨_, rfl, _, rfl, a, _, rfl, .inl hS, _, _, rfl, rfl, _, rfl, ite2 (fun hk => ?_) (fun _ => ?_)⟩
    · have lt := of_decide_eq_true hk
      rw [List.length_map] at lt
      exact ⟨_, rfl, _, rfl, a, _, _, _, rfl, rfl, hS, atI_nat (by rw [List.getElem?_map, List.getElem?_eq_getElem lt]; rfl), q _⟩
    · exact q _
/-! ### _law_number -/
def spNumber : Sp := fun vs H Q _ => ∃ (z : Int) (k : Nat), vs = [.int z, I k] ∧ k < 1000 ∧ ∀ n : Nat, Q (I n) H
theorem scNumber : FnScope ["_law_cell", "_law_at"] ["_law_cell", "_law_at"] (defScope sNumber) := ⟨rfl, rfl, rfl, by decide +kernel, rfl, by decide +kernel, by decide +kernel⟩
theorem ok_number (B : Bi mg) (F : FnP K "_law_number" sNumber [] f fd) : FnOk P w K mg base CX0 1 f fd ["_law_cell", "_law_at"] spNumber := by
  refine F.ok scNumber (fun vs H Q E h => ?_) (fun cdv A outer s H vs Q E hr h => ?_)
  · obtain ⟨z, k, rfl, _⟩ := h
    rfl
  · obtain ⟨z, k, rfl, hk, q⟩ := h
    refine ⟨_, PSs.nox (pss_one (ps_ret (pe_op opn_add (pe_op opn_mul (pe_callB calln_abs (by rfl) B.abs (by decide +kernel) (pa_cons (pv 0) pa_nil)) (pe_op opn_add (pe_op opn_mul pe_int (pv 1)) pe_int)) (pe_op opn_mul (pv 1) (pv 1))))), ?_⟩
    refine ⟨_, rfl, z, rfl, fun n => ?_⟩
    exact ⟨_, rfl, 2, k, rfl, rfl, by omega, _, 3, rfl, rfl, _, _, rfl, rfl, by omega, _, rfl, _, rfl, _, _, rfl, rfl, by omega, _, _, rfl, rfl, q _⟩
/-! ### _law_hall -/
def most (i : Nat) : Nat := [12, 12, 24, 12, 12].getD i 0
theorem most_lo (i : Nat) (h : i < 5) : 1 ≤ [4, 4, 6, 4, 4].getD i 0 ∧ [4, 4, 6, 4, 4].getD i 0 ≤ most i ∧ 1 ≤ most i := by
  match i, h with
  | 0, _ => decide
  | 1, _ => decide
  | 2, _ => decide
  | 3, _ => decide
  | 4, _ => decide
theorem at5 (l : List Nat) (i : Nat) (h : i < l.length) : atI (nI l) (i : Int) = some (I (l.getD i 0)) :=
  atI_nat (nI_get (by rw [List.getD_eq_getElem?_getD, List.getElem?_eq_getElem h]; rfl))
def spHall (K : PySem.W.Frag) : Sp := fun vs H Q _ => ∃ (a : Addr) (ns : List Int), vs = [.ref a] ∧ SqL K H a (ns.map V.int) ∧ ∀ H' p h, Same H H' → HallOk h → H' p = some (.tup (hallV h)) → Q (.ref p) H'
theorem scHall : FnScope ["_law_script", "_law_sizes", "_law_k", "_law_number_here", "_law_most"] ["_law_script"] (defScope sHall) := ⟨rfl, rfl, rfl, by decide +kernel, rfl, by decide +kernel, by decide +kernel⟩
theorem ok_hall (B : Bi mg) (F : FnP K "_law_hall" sHall [] f fd) (hC : Has P w K mg base "_law_cell_at" 1 ["_law_script", "_law_k"] (spCellAt K)) : FnOk P w K mg base CX0 2 f fd ["_law_script"] (spHall K) := by
  refine F.ok scHall (fun vs H Q E h => ?_) (fun cdv A outer s H vs Q E hr h => ?_)
  · obtain ⟨a, ns, rfl, _⟩ := h
    rfl
  · obtain ⟨a, ns, rfl, hS, q⟩ := h
    refine ⟨_, PSs.nox (pss_cons (ps_set (i := 1) scHall.nd rfl (.inl rfl) (pe_lst pa_nil))
      (pss_cons (ps_for PassesOwn.never rfl (pi_range1 (by rfl) B.range (pa_cons pe_int pa_nil)) (pg_name (i := 2) scHall.nd rfl (.inl rfl))
        (pss_cons (ps_set (i := 3) scHall.nd rfl (.inl rfl) (pe_op opn_add (pe_op opn_mul (pe_op opz_mod (pe_has hC hr (by decide) (pa_cons (pv 0) (pa_cons (pv 2) pa_nil))) (pe_op opn_ten pe_int pe_int)) (pe_op opn_add (pe_op opn_mul pe_int (pv 2)) pe_int)) (pe_op opn_mul pe_int (pv 2))))
        (pss_cons (ps_set (i := 4) scHall.nd rfl (.inl rfl) (pe_ix ix_list (pe_lst (pa_cons pe_int (pa_cons pe_int (pa_cons pe_int (pa_cons pe_int (pa_cons pe_int pa_nil)))))) (pv 2) (fun _ _ => rfl)))
        (Evl.pss_cut (ps_if (pt_cmpR opn_eq (pe_op opz_mod (pe_has hC hr (by decide) (pa_cons (pv 0) (pa_cons pe_int pa_nil))) pe_int) pe_int (nomark _))
            (pss_one (ps_set (i := 4) scHall.nd rfl (.inl rfl) (pe_ix ix_list (pe_lst (pa_cons pe_int (pa_cons pe_int (pa_cons pe_int (pa_cons pe_int (pa_cons pe_int pa_nil)))))) (pv 2) (fun _ _ => rfl)))) pss_nil)
        (pss_one (ps_expr (pe_bm PySem.F.plainAttrs_list PySem.F.slot_list_append PySem.F.type_list_append mt_append (pv 1) (pa_cons (pe_op opn_add pe_int (pe_op opn_mod (pe_op opn_mod (pv 3) pe_int) (pv 4))) pa_nil))))))))
      (pss_one (ps_ret (pe_callTy call_tuple_of (by rfl) B.tuple (by decide +kernel) (pa_cons (pv 1) pa_nil)))))), ?_⟩
    refine ⟨Nat.zero_le _, fun o no => ?_⟩
    refine ⟨5, rfl, by decide, by decide, ?_⟩
    refine fors_range (n := 5) (fun i σ H' => ∃ (l : List Nat) (x2 x3 x4 : Option V), σ = [some (.ref a), some (.ref o), x2, x3, x4] ∧ Same H H' ∧ H' o = some (.lst (nI l)) ∧ l.length = i ∧ ∀ (j n : Nat), l[j]? = some n → 1 ≤ n ∧ n ≤ most j)
      ⟨[], none, none, none, rfl, same_upd no, upd_same, rfl, fun j n h => by cases h⟩ ?_ ?_
    · rintro i σ H' hi ⟨l, x2, x3, x4, rfl, sm, ho, hl, hb⟩
      refine ⟨_, rfl, _, rfl, a, ns, i, rfl, Same.seq sm hS, fun z => ?_⟩
      refine ⟨rfl, rfl, z, _, rfl, rfl, by decide, fun n hn => ?_⟩
      refine ⟨_, rfl, 2, _, rfl, rfl, by omega, _, 48271, rfl, rfl, _, _, rfl, rfl, by omega, _, rfl, 7, _, rfl, rfl, by omega, _, _, rfl, rfl, ?_⟩
      obtain ⟨m1, m2, m3⟩ := most_lo i hi
      refine ⟨by show 5 ≤ sizeLine; decide, fun r nr => ?_⟩
      have s1 := sm.trans (same_upd (o := .lst (nI [4, 4, 6, 4, 4])) nr)
      refine ⟨_, rfl, r, _, _, _, rfl, rfl, SqL.of upd_same, at5 [4, 4, 6, 4, 4] i hi, ?_⟩
      have ho1 : upd H' r (.lst (nI [4, 4, 6, 4, 4])) o = some (.lst (nI l)) := (same_upd nr) _ _ ho
      refine ⟨fun σ H2 => ∃ (x3 : Nat) (m : Nat), σ = [some (.ref a), some (.ref o), some (I i), some (I x3), some (I m)] ∧ Same H H2 ∧ H2 o = some (.lst (nI l)) ∧ 1 ≤ m ∧ m ≤ most i, ?_, ?_⟩
      · refine ⟨_, rfl, a, ns, 5, rfl, Same.seq s1 hS, fun z2 => ⟨z2, 5, rfl, rfl, by decide, fun n2 hn2 => ⟨_, 2, rfl, rfl, _, rfl, ite2 (fun _ => ?_) (fun _ => ?_)⟩⟩⟩
        · refine ⟨by show 5 ≤ sizeLine; decide, fun r2 nr2 => ?_⟩
          refine ⟨_, rfl, r2, _, _, _, rfl, rfl, SqL.of upd_same, at5 [12, 12, 24, 12, 12] i hi, ?_⟩
          exact ⟨_, _, rfl, s1.trans (same_upd nr2), (same_upd nr2) _ _ ho1, m3, Nat.le_refl _⟩
        · exact ⟨_, _, rfl, s1, ho1, m1, m2⟩
      · rintro σ H2 ⟨x3, m, rfl, sm2, ho2, hm1, hm2⟩
        refine ⟨_, rfl, .inl ⟨rfl, _, SqL.of ho2⟩, _, rfl, _, 999983, rfl, rfl, by omega, _, rfl, _, _, rfl, rfl, hm1, 1, _, rfl, rfl, o, _, _, rfl, rfl, ho2, by rw [nI_len, sizeLine_eq]; omega, ?_⟩
        refine ⟨l ++ [1 + x3 % 999983 % m], _, _, _, rfl, fun b u hu => ?_, ?_, by rw [List.length_append, hl]; rfl, fun j n hj => ?_⟩
        · rw [upd_ne (ne_of_none hu no)]
          exact sm2 b u hu
        · rw [upd_same]
          unfold nI
          rw [List.map_append]
          rfl
        · rcases snoc_at hj with hj | ⟨e1, e2⟩
          · exact hb j n hj
          · rw [e2, e1, hl]
            have := Nat.mod_lt (x3 % 999983) hm1
            omega
    · rintro σ H' ⟨l, x2, x3, x4, rfl, sm, ho, hl, hb⟩
      match l, hl with
      | [n0, n1, n2, n3, n4], _ =>
        obtain ⟨a0, b0⟩ := hb 0 n0 rfl
        obtain ⟨a1, b1⟩ := hb 1 n1 rfl
        obtain ⟨a2, b2⟩ := hb 2 n2 rfl
        obtain ⟨a3, b3⟩ := hb 3 n3 rfl
        obtain ⟨a4, b4⟩ := hb 4 n4 rfl
        refine ⟨_, rfl, o, _, rfl, .inl ⟨SqL.of ho, fun t nt => ?_⟩⟩
        exact q _ t ⟨n0, n1, n2, n3, n4⟩ (sm.trans (same_upd nt)) ⟨a0, b0, a1, b1, a2, b2, a3, b3, a4, b4⟩ upd_same
/-! ### _law_ends -/
def spEnds (K : PySem.W.Frag) : Sp := fun vs H Q _ => ∃ (a : Addr) (h : Hall) (n : Nat), vs = [.ref a, I n] ∧ HallOk h ∧ SqT K H a (hallV h) ∧
  ∀ H' p es, Same H H' → H p = none → H' p = some (.lst (nI es)) → EndsIn h es → es.length ≤ 12 → Q (.ref p) H'
theorem scEnds : FnScope ["_law_hall_here", "_law_number_here", "_law_ends_here", "_law_left_here", "_law_many", "_law_k", "_law_end"] ["_law_hall_here", "_law_number_here"] (defScope sEnds) := ⟨rfl, rfl, rfl, by decide +kernel, rfl, by decide +kernel, by decide +kernel⟩
theorem ok_ends (B : Bi mg) (F : FnP K "_law_ends" sEnds [] f fd) : FnOk P w K mg base CX0 1 f fd ["_law_hall_here", "_law_number_here"] (spEnds K) := by
  refine F.ok scEnds (fun vs H Q E h => ?_) (fun cdv A outer s H vs Q E hr h => ?_)
  · obtain ⟨a, h, n, rfl, _⟩ := h
    rfl
  · obtain ⟨a, h, n, rfl, hh, ha, q⟩ := h
    refine ⟨_, PSs.nox (pss_cons (ps_set (i := 2) scEnds.nd rfl (.inl rfl) (pe_lst pa_nil))
      (pss_cons (ps_set (i := 3) scEnds.nd rfl (.inl rfl) (pe_op opn_divW (pv 1) (pe_op opn_ten pe_int pe_int)))
      (pss_cons (ps_set (i := 4) scEnds.nd rfl (.inl rfl) (pe_op opn_add pe_int (pe_op opn_mod (pe_op opn_mod (pe_op opn_mul (pv 1) pe_int) pe_int) pe_int)))
      (Evl.pss_cut (ps_if (pt_cmpR opn_eq (pe_op opn_mod (pe_op opn_mod (pe_op opn_mul (pv 1) pe_int) pe_int) pe_int) pe_int (nomark _))
          (pss_one (ps_set (i := 4) scEnds.nd rfl (.inl rfl) (pe_op opn_add pe_int (pe_op opn_mod (pe_op opn_mod (pe_op opn_mul (pv 1) pe_int) pe_int) pe_int)))) pss_nil)
      (pss_cons (ps_for PassesOwn.never rfl (pi_range1 (by rfl) B.range (pa_cons (pv 4) pa_nil)) (pg_name (i := 5) scEnds.nd rfl (.inl rfl))
        (pss_cons (ps_set (i := 6) scEnds.nd rfl (.inl rfl) (pe_op opn_mod (pe_op opn_mod (pe_op opn_mul (pv 1) (pe_op opn_add pe_int (pe_op opn_mul (pe_op opn_mul pe_int (pv 5)) (pv 5)))) pe_int) (pe_op opn_mul (pe_ix ix_tup (pv 0) pe_int (fun _ _ => rfl)) (pe_ix ix_tup (pv 0) pe_int (fun _ _ => rfl)))))
        (Evl.pss_cut (ps_if (pt_cmpR opn_ge (pv 1) (pe_op opn_ten pe_int pe_int) (nomark _))
            (pss_cons (ps_set (i := 6) scEnds.nd rfl (.inl rfl) (pe_op opn_mod (pv 3) (pe_op opn_mul (pe_ix ix_tup (pv 0) pe_int (fun _ _ => rfl)) (pe_ix ix_tup (pv 0) pe_int (fun _ _ => rfl)))))
            (pss_one (ps_set (i := 3) scEnds.nd rfl (.inl rfl) (pe_op opn_div (pv 3) (pe_op opn_mul (pe_ix ix_tup (pv 0) pe_int (fun _ _ => rfl)) (pe_ix ix_tup (pv 0) pe_int (fun _ _ => rfl))))))) pss_nil)
        (pss_one (ps_if (pt_cmpR op_notIn_seq (pv 6) (pv 2) (by rfl)) (pss_one (ps_expr (pe_bm PySem.F.plainAttrs_list PySem.F.slot_list_append PySem.F.type_list_append mt_append (pv 2) (pa_cons (pv 6) pa_nil)))) pss_nil)))))
      (pss_one (ps_ret (pv 2)))))))), ?_⟩
    have o1 := hh.o1
    have o2 := hh.o2
    have e1 := hh.e1
    have e2 := hh.e2
    have pm : 1 ≤ h.outs * h.ends := Nat.mul_le_mul o1 e1
    have pm2 : h.outs * h.ends ≤ 12 * 12 := Nat.mul_le_mul o2 e2
    refine ⟨Nat.zero_le _, fun o no => ?_⟩
    have s1 : Same H (upd H o (.lst [])) := same_upd no
    refine ⟨_, rfl, rfl, rfl, _, _, rfl, rfl, ⟨by decide, by decide⟩, ?_⟩
    refine ⟨_, rfl, _, 16807, rfl, rfl, by omega, _, 999961, rfl, rfl, by omega, _, 3, rfl, rfl, by omega, 1, _, rfl, rfl, ?_⟩
    refine ⟨fun σ H' => ∃ (m l : Nat), σ = [some (.ref a), some (I n), some (.ref o), some (I l), some (I m), none, none] ∧ m ≤ 12 ∧ H' = upd H o (.lst []), ?_, ?_⟩
    · refine ⟨_, rfl, _, 39373, rfl, rfl, by omega, _, 999863, rfl, rfl, by omega, _, 6, rfl, rfl, by omega, _, 1, rfl, rfl, _, rfl, ite2 (fun _ => ?_) (fun _ => ?_)⟩
      · refine ⟨_, rfl, _, 16807, rfl, rfl, by omega, _, 999961, rfl, rfl, by omega, _, 12, rfl, rfl, by omega, 1, _, rfl, rfl, ?_⟩
        exact ⟨_, _, rfl, by omega, rfl⟩
      · exact ⟨_, _, rfl, by omega, rfl⟩
    · rintro σ H' ⟨m, l0, rfl, hm, rfl⟩
      refine ⟨_, rfl, _, rfl, by omega, by omega, ?_⟩
      rw [Int.toNat_natCast]
      refine fors_range (n := m) (fun i σ H' => ∃ (es : List Nat) (l : Nat) (x5 x6 : Option V), σ = [some (.ref a), some (I n), some (.ref o), some (I l), some (I m), x5, x6] ∧ Same H H' ∧ H' o = some (.lst (nI es)) ∧ es.length ≤ i ∧ EndsIn h es)
        ⟨[], l0, none, none, rfl, s1, upd_same, Nat.le_refl _, fun e he => by cases he⟩ ?_ ?_
      · rintro i σ H' hi ⟨es, l, x5, x6, rfl, sm, ho, hl, hin⟩
        have ha' := Same.seqT sm ha
        have i12 : i * i ≤ 12 * 12 := Nat.mul_le_mul (by omega) (by omega)
        have i12' : 2 * i * i = 2 * (i * i) := Nat.mul_assoc _ _ _
        refine ⟨_, rfl, _, rfl, 2, i, rfl, rfl, by omega, _, rfl, _, _, rfl, rfl, by omega, 69621, _, rfl, rfl, _, _, rfl, rfl, by omega, _, 999983, rfl, rfl, by omega, _, rfl, a, _, 3, _, rfl, rfl, ha', atI_nat (j := 3) rfl, _, rfl, a, _, 4, _, rfl, rfl, ha', atI_nat (j := 4) rfl, _, _, rfl, rfl, by omega, _, _, rfl, rfl, pm, ?_⟩
        refine ⟨fun σ H2 => ∃ (l' e : Nat), σ = [some (.ref a), some (I n), some (.ref o), some (I l'), some (I m), some (I i), some (I e)] ∧ e < h.outs * h.ends ∧ H2 = H', ?_, ?_⟩
        · refine ⟨_, rfl, rfl, rfl, _, _, rfl, rfl, _, rfl, ite2 (fun _ => ?_) (fun _ => ?_)⟩
          · refine ⟨_, rfl, _, rfl, a, _, 3, _, rfl, rfl, ha', atI_nat (j := 3) rfl, _, rfl, a, _, 4, _, rfl, rfl, ha', atI_nat (j := 4) rfl, _, _, rfl, rfl, by omega, _, _, rfl, rfl, pm, ?_⟩
            refine ⟨_, rfl, _, rfl, a, _, 3, _, rfl, rfl, ha', atI_nat (j := 3) rfl, _, rfl, a, _, 4, _, rfl, rfl, ha', atI_nat (j := 4) rfl, _, _, rfl, rfl, by omega, _, _, rfl, rfl, ⟨pm, by omega⟩, ?_⟩
            exact ⟨_, _, rfl, Nat.mod_lt _ pm, rfl⟩
          · exact ⟨_, _, rfl, Nat.mod_lt _ pm, rfl⟩
        · rintro σ H2 ⟨l', e, rfl, he, rfl⟩
          refine ⟨_, rfl, _, rfl, o, _, rfl, .inl (SqL.of ho), rfl, flat_nI _, _, rfl, ite2 (fun _ => ?_) (fun _ => ?_)⟩
          · refine ⟨_, rfl, .inl ⟨rfl, _, SqL.of ho⟩, _, rfl, o, _, _, rfl, rfl, ho, by rw [nI_len, sizeLine_eq]; omega, ?_⟩
            refine ⟨es ++ [e], _, _, _, rfl, fun b u hu => ?_, ?_, by rw [List.length_append]; show es.length + 1 ≤ _; omega, fun y hy => ?_⟩
            · rw [upd_ne (ne_of_none hu no)]
              exact sm b u hu
            · rw [upd_same]
              unfold nI
              rw [List.map_append]
              rfl
            · rcases List.mem_append.mp hy with hy | hy
              · exact hin y hy
              · rw [List.mem_singleton.mp hy]
                exact he
          · exact ⟨es, _, _, _, rfl, sm, ho, by omega, hin⟩
      · rintro σ H' ⟨es, l, x5, x6, rfl, sm, ho, hl, hin⟩
        exact ⟨_, rfl, q H' o es sm no ho hin (by omega)⟩
end
end Xr
set_option Elab.async false
set_option linter.all false
set_option maxRecDepth 100000
set_option maxHeartbeats 4000000
/-! The walks, 7: lines as keys; _law_lines, _law_taken, _law_left, _law_alike. -/
namespace Xr
open PySem PySem.Spec PyProof.Rows L2
/-! ### lines, callers, ends as keys and as data -/
def keyOf : T → List Key
  | .cal c => [.inr "caller", .inl (c : Int)]
  | .en e => [.inr "end", .inl (e : Int)]
  | .li false r k => [.inr "in", .inl (r : Int), .inl (k : Int)]
  | .li true r k => [.inr "out", .inl (r : Int), .inl (k : Int)]
theorem ne_ce : ¬ ((Sum.inr ("caller" : Str) : Key) = Sum.inr ("end" : Str)) := by decide +kernel
theorem ne_io : ¬ ((Sum.inr ("in" : Str) : Key) = Sum.inr ("out" : Str)) := by decide +kernel
theorem keyOf_inj : ∀ {t u : T}, keyOf t = keyOf u → t = u := by
  intro t u h
  cases t with
  | cal c =>
    cases u with
    | cal c' =>
      unfold keyOf at h
      injection h with _ h
      injection h with h _
      injection h with h
      rw [Int.natCast_inj.mp h]
    | en e =>
      unfold keyOf at h
      injection h with h _
      exact absurd h ne_ce
    | li o r k => cases o <;> (unfold keyOf at h; have := congrArg List.length h; simp at this)
  | en e =>
    cases u with
    | cal c' =>
      unfold keyOf at h
      injection h with h _
      exact absurd h.symm ne_ce
    | en e' =>
      unfold keyOf at h
      injection h with _ h
      injection h with h _
      injection h with h
      rw [Int.natCast_inj.mp h]
    | li o r k => cases o <;> (unfold keyOf at h; have := congrArg List.length h; simp at this)
  | li o r k =>
    cases u with
    | cal c' => cases o <;> (unfold keyOf at h; have := congrArg List.length h; simp at this)
    | en e' => cases o <;> (unfold keyOf at h; have := congrArg List.length h; simp at this)
    | li o' r' k' =>
      cases o <;> cases o' <;> unfold keyOf at h
      · injection h with _ h
        injection h with h1 h
        injection h with h2 _
        injection h1 with h1
        injection h2 with h2
        rw [Int.natCast_inj.mp h1, Int.natCast_inj.mp h2]
      · injection h with h _
        exact absurd h ne_io
      · injection h with h _
        exact absurd h.symm ne_io
      · injection h with _ h
        injection h with h1 h
        injection h with h2 _
        injection h1 with h1
        injection h2 with h2
        rw [Int.natCast_inj.mp h1, Int.natCast_inj.mp h2]
abbrev tupT (t : T) : HO := .tup ((keyOf t).map kV)
def dkey : Key → PyData
  | .inl i => .int i
  | .inr x => .str x
def dT (t : T) : PyData := .tuple ((keyOf t).map dkey)
theorem dp_key {K : PySem.W.Frag} {H : Hp} : ∀ ks : List Key, DpAll K H (ks.map kV) (ks.map dkey)
  | [] => .nil
  | .inl i :: ks => .cons (.int i) (dp_key ks)
  | .inr x :: ks => .cons (.str x) (dp_key ks)
theorem dp_T {K : PySem.W.Frag} {H : Hp} {p : Addr} {t : T} (h : H p = some (tupT t)) : Dp K H (.ref p) (dT t) := .tup (SqT.of h) (dp_key _)
theorem ok_s1 : PyData.strOk (Str.ofString "caller") = true := by decide +kernel
theorem ok_s2 : PyData.strOk (Str.ofString "end") = true := by decide +kernel
theorem ok_s3 : PyData.strOk (Str.ofString "in") = true := by decide +kernel
theorem ok_s4 : PyData.strOk (Str.ofString "out") = true := by decide +kernel
theorem lay_T (t : T) : PyData.canLay0 (dT t) = true := by
  unfold dT
  cases t with
  | cal c => simp [keyOf, dkey, PyData.canLay0, PyData.canLayAll0, ok_s1]
  | en e => simp [keyOf, dkey, PyData.canLay0, PyData.canLayAll0, ok_s2]
  | li o r k => cases o <;> simp [keyOf, dkey, PyData.canLay0, PyData.canLayAll0, ok_s3, ok_s4]
theorem dep_T (t : T) : PyData.depth (dT t) = 1 := by
  unfold dT
  cases t with
  | cal c => simp [keyOf, dkey, PyData.depth, PyData.depthAll]
  | en e => simp [keyOf, dkey, PyData.depth, PyData.depthAll]
  | li o r k => cases o <;> simp [keyOf, dkey, PyData.depth, PyData.depthAll]
theorem sh_T (t : T) : SeqAt.shaped (dT t) = true := by
  unfold SeqAt.shaped
  rw [lay_T, dep_T]
  rfl
theorem eqv_keys : ∀ ks ls : List Key, PyData.eqvAll (ks.map dkey) (ls.map dkey) = decide (ks = ls)
  | [], [] => by simp [PyData.eqvAll]
  | [], _ :: _ => by simp [PyData.eqvAll]
  | _ :: _, [] => by simp [PyData.eqvAll]
  | k :: ks, l :: ls => by
    rw [List.map_cons, List.map_cons]
    simp only [PyData.eqvAll, eqv_keys ks ls]
    rw [Bool.eq_iff_iff]
    cases k <;> cases l <;> simp [dkey, PyData.eqv]
theorem eqv_T (t u : T) : PyData.eqv (dT t) (dT u) = decide (t = u) := by
  unfold dT
  simp only [PyData.eqv]
  rw [eqv_keys, Bool.eq_iff_iff, decide_eq_true_eq, decide_eq_true_eq]
  exact ⟨keyOf_inj, fun e => by rw [e]⟩
/-- a list of such tuples -/
abbrev refT (ls : List (Addr × T)) : List V := ls.map fun x => V.ref x.1
abbrev tof (ls : List (Addr × T)) : List T := ls.map (·.2)
def EachT (H : Hp) (ls : List (Addr × T)) : Prop := ∀ x, x ∈ ls → H x.1 = some (tupT x.2)
theorem EachT.same {H H' : Hp} {ls : List (Addr × T)} (s : Same H H') (e : EachT H ls) : EachT H' ls := fun x hx => s _ _ (e x hx)
theorem EachT.snoc {H : Hp} {ls : List (Addr × T)} {p : Addr} {t : T} (e : EachT H ls) (h : H p = some (tupT t)) : EachT H (ls ++ [(p, t)]) := fun x hx => by
  rcases List.mem_append.mp hx with hx | hx
  · exact e x hx
  · rw [List.mem_singleton.mp hx]
    exact h
theorem refT_snoc (ls : List (Addr × T)) (x : Addr × T) : refT (ls ++ [x]) = refT ls ++ [V.ref x.1] := List.map_append ..
theorem refT_at {ls : List (Addr × T)} {i : Nat} {x : V} (h : (refT ls)[i]? = some x) : ∃ t, ls[i]? = some t ∧ x = V.ref t.1 := by
  rw [List.getElem?_map] at h
  cases e : ls[i]? with
  | none => rw [e] at h; cases h
  | some n => rw [e] at h; exact ⟨n, rfl, (Option.some.inj h).symm⟩
theorem dp_Ts {K : PySem.W.Frag} {H : Hp} : ∀ ls : List (Addr × T), EachT H ls → DpAll K H (refT ls) ((tof ls).map dT)
  | [], _ => .nil
  | x :: ls, h => .cons (dp_T (h x List.mem_cons_self)) (dp_Ts ls fun y hy => h y (List.mem_cons_of_mem _ hy))
theorem lay_Ts : ∀ l : List T, PyData.canLayAll0 (l.map dT) = true
  | [] => by simp [PyData.canLayAll0]
  | d :: ds => by
    rw [List.map_cons]
    simp only [PyData.canLayAll0, lay_T, lay_Ts ds, Bool.and_self]
theorem dep_Ts : ∀ l : List T, PyData.depthAll (l.map dT) ≤ 1
  | [] => by simp [PyData.depthAll]
  | d :: ds => by
    have ih := dep_Ts ds
    rw [List.map_cons]
    simp only [PyData.depthAll, dep_T]
    omega
theorem sh_Ts (l : List T) : SeqAt.shaped (.list (l.map dT)) = true := sh_list (lay_Ts l) (Nat.le_trans (dep_Ts l) (by decide))
theorem any_T (t : T) : ∀ l : List T, ((l.map dT).any fun z => PyData.eqv z (dT t)) = decide (t ∈ l)
  | [] => by simp
  | u :: l => by
    rw [List.map_cons, List.any_cons, any_T t l, eqv_T, Bool.eq_iff_iff, Bool.or_eq_true, decide_eq_true_eq, decide_eq_true_eq, decide_eq_true_eq, List.mem_cons]
    exact or_congr_left ⟨Eq.symm, Eq.symm⟩
/-! ### dicts of such keys -/
/-- the keys of the dict are just those of S -/
def DictIs (kvs : List (List Key × V)) (S : T → Prop) : Prop := ∀ t, (valV kvs (keyOf t)).isSome = true ↔ S t
theorem DictIs.nil : DictIs [] fun _ => False := fun t => by simp [valV_nil]
theorem DictIs.put {kvs : List (List Key × V)} {S : T → Prop} (d : DictIs kvs S) (u : T) (v : V) : DictIs (putK kvs (keyOf u) v) fun t => S t ∨ t = u := fun t => by
  rw [valV_put]
  by_cases e : keyOf t = keyOf u
  · rw [if_pos e]
    exact ⟨fun _ => .inr (keyOf_inj e), fun _ => rfl⟩
  · rw [if_neg e, d t]
    exact ⟨.inl, fun z => z.elim id fun z => absurd (by rw [z]) e⟩
theorem DictIs.congr {kvs : List (List Key × V)} {S S' : T → Prop} (d : DictIs kvs S) (h : ∀ t, S t ↔ S' t) : DictIs kvs S' := fun t => (d t).trans (h t)
theorem hu65 {k : Nat} {A : Around} (hr : Room k A) : A.units + 65 < cLine := by have := hr.un; omega
section
variable {P : Program} {w : World} {K : PySem.W.Frag} {mg : Str → Option Value} {base : Heap} {f : Addr} {fd : FuncData}
/-! ### _law_lines -/
def spLines (K : PySem.W.Frag) : Sp := fun vs H Q _ => ∃ (a e : Addr) (h : Hall) (c : Nat) (es : List Nat) (k : Nat), vs = [.ref a, I c, .ref e, I k] ∧ HallOk h ∧ SqT K H a (hallV h) ∧ SqA K H e (nI es) ∧ es.length ≤ 12 ∧
  ∀ H' p ls, Same H H' → H p = none → H' p = some (.lst (refT ls)) → EachT H' ls → (∀ t, t ∈ tof ls ↔ IsLine h c es k t) → ls.length ≤ 13 → Q (.ref p) H'
theorem scLines : FnScope ["_law_hall_here", "_law_caller", "_law_ends_here", "_law_k", "_law_lines_here", "_law_end", "_law_line"] ["_law_hall_here", "_law_caller", "_law_ends_here", "_law_k"] (defScope sLines) := ⟨rfl, rfl, rfl, by decide +kernel, rfl, by decide +kernel, by decide +kernel⟩
theorem ok_lines (F : FnP K "_law_lines" sLines [] f fd) : FnOk P w K mg base CX0 1 f fd ["_law_hall_here", "_law_caller", "_law_ends_here", "_law_k"] (spLines K) := by
  refine F.ok scLines (fun vs H Q E h => ?_) (fun cdv A outer s H vs Q E hr h => ?_)
  · obtain ⟨a, e, h, c, es, k, rfl, _⟩ := h
    rfl
  · obtain ⟨a, e, h, c, es, k, rfl, hh, ha, he, few, q⟩ := h
    refine ⟨_, PSs.nox (pss_cons (ps_set (i := 4) scLines.nd rfl (.inl rfl) (pe_lst (pa_cons (pe_tup (pa_cons pe_str (pa_cons (pe_op opn_div (pv 1) (pe_ix ix_tup (pv 0) pe_int (fun _ _ => rfl))) (pa_cons (pv 3) pa_nil)))) pa_nil)))
      (pss_cons (ps_for PassesOwn.never rfl (pi_any 2) (pg_name (i := 5) scLines.nd rfl (.inl rfl))
        (pss_cons (ps_set (i := 6) scLines.nd rfl (.inl rfl) (pe_tup (pa_cons pe_str (pa_cons (pe_op opn_div (pv 5) (pe_ix ix_tup (pv 0) pe_int (fun _ _ => rfl))) (pa_cons (pv 3) pa_nil)))))
        (pss_one (ps_if (pt_cmpR (op_notInD (hu65 hr)) (pv 6) (pv 4) (by rfl)) (pss_one (ps_expr (pe_bm PySem.F.plainAttrs_list PySem.F.slot_list_append PySem.F.type_list_append mt_append (pv 4) (pa_cons (pv 6) pa_nil)))) pss_nil))))
      (pss_one (ps_ret (pv 4))))), ?_⟩
    have c1 := hh.c1
    have c2 := hh.c2
    have e1 := hh.e1
    have e2 := hh.e2
    refine ⟨_, rfl, _, rfl, a, _, 1, _, rfl, rfl, ha, atI_nat (j := 1) rfl, _, _, rfl, rfl, ⟨c1, by omega⟩, _, rfl, by show 3 ≤ sizeLine; decide, fun p1 n1 => ?_⟩
    have s1 : Same H (upd H p1 (tupT (.li false (c / h.cal) k))) := same_upd n1
    refine ⟨by show 1 ≤ sizeLine; decide, fun o no => ?_⟩
    have s2 := s1.trans (same_upd (o := .lst [V.ref p1]) no)
    have no0 : H o = none := s1.free no
    refine ⟨e, nI es, H, rfl, he, s2, fun J G wk hG => ?_⟩
    refine for_it wk (fun i σ H' => ∃ (ls : List (Addr × T)) (x5 x6 : Option V), σ = [some (.ref a), some (I c), some (.ref e), some (I k), some (.ref o), x5, x6] ∧ Same H H' ∧ H' o = some (.lst (refT ls)) ∧ EachT H' ls ∧
        (∀ t, t ∈ tof ls ↔ IsLine h c (es.take i) k t) ∧ ls.length ≤ i + 1)
      ⟨[(p1, .li false (c / h.cal) k)], none, none, rfl, s2, upd_same, ?_, fun t => ?_, Nat.le_refl _⟩ (fun i σ H' _ ⟨_, _, _, _, sm, _⟩ => hG H' sm) (fun i x σ H' H'' hi ⟨ls, x5, x6, eσ, sm, ho, hls, hmem, hlen⟩ ⟨eH, hx⟩ => ?_) fun σ H' ⟨ls, x5, x6, eσ, sm, ho, hls, hmem, hlen⟩ => ?_
    · intro x hx
      rw [List.mem_singleton.mp hx]
      exact (upd_ne (ne_of_none upd_same no)).trans upd_same
    · show t ∈ [T.li false (c / h.cal) k] ↔ _
      rw [List.mem_singleton]
      unfold IsLine
      simp
    · subst eσ eH
      obtain ⟨n, hn, rfl⟩ := nI_at hx
      rw [nI_len] at hi
      refine ⟨_, rfl, _, rfl, a, _, 4, _, rfl, rfl, Same.seqT sm ha, atI_nat (j := 4) rfl, _, _, rfl, rfl, ⟨e1, by omega⟩, _, rfl, by show 3 ≤ sizeLine; decide, fun p np => ?_⟩
      have sp : Same H'' (upd H'' p (tupT (.li true (n / h.ends) k))) := same_upd np
      have smp := sm.trans sp
      have hop := sp _ _ ho
      have hlp := hls.same sp
      have line : ∀ t, IsLine h c (es.take (i + 1)) k t ↔ IsLine h c (es.take i) k t ∨ t = .li true (n / h.ends) k := fun t => by
        unfold IsLine
        constructor
        · rintro (z | ⟨y, hy, z⟩)
          · exact .inl (.inl z)
          · rcases (mem_take_succ hn y).1 hy with hy | hy
            · exact .inl (.inr ⟨y, hy, z⟩)
            · rw [hy] at z
              exact .inr z
        · rintro ((z | ⟨y, hy, z⟩) | z)
          · exact .inl z
          · exact .inr ⟨y, (mem_take_succ hn y).2 (.inl hy), z⟩
          · exact .inr ⟨n, (mem_take_succ hn n).2 (.inr rfl), z⟩
      refine ⟨_, rfl, _, rfl, dT (.li true (n / h.ends) k), (tof ls).map dT, dp_T upd_same, .lst (SqL.of hop) (dp_Ts ls hlp), sh_T _, sh_Ts _, _, rfl, ?_⟩
      rw [any_T]
      refine ite2 (fun hnin => ?_) (fun hin => ?_)
      · refine ⟨_, rfl, .inl ⟨rfl, _, SqL.of hop⟩, _, rfl, o, _, _, rfl, rfl, hop, by rw [List.length_map, sizeLine_eq]; omega, ?_⟩
        have sb : Same H (upd (upd H'' p (tupT (.li true (n / h.ends) k))) o (.lst (refT ls ++ [V.ref p]))) := fun b u hu => by
          rw [upd_ne (ne_of_none hu no0)]
          exact smp b u hu
        have each : ∀ x : Addr × T, upd H'' p (tupT (.li true (n / h.ends) k)) x.1 = some (tupT x.2) → upd (upd H'' p (tupT (.li true (n / h.ends) k))) o (.lst (refT ls ++ [V.ref p])) x.1 = some (tupT x.2) := fun x hx => by
          rw [upd_ne (ne_of hx hop (by intro z; cases z))]
          exact hx
        refine ⟨ls ++ [(p, .li true (n / h.ends) k)], _, _, rfl, sb, by rw [upd_same, refT_snoc], EachT.snoc (fun x hx => each x (hlp x hx)) (each (p, .li true (n / h.ends) k) upd_same), fun t => ?_, by rw [List.length_append]; show ls.length + 1 ≤ _; omega⟩
        show t ∈ List.map _ _ ↔ _
        rw [List.map_append, List.mem_append, line t, ← hmem t]
        exact or_congr_right List.mem_singleton
      · refine ⟨ls, _, _, rfl, smp, hop, hlp, fun t => ?_, by omega⟩
        rw [line t, ← hmem t]
        have hin2 : T.li true (n / h.ends) k ∈ tof ls := by
          refine Classical.byContradiction fun z => hin ?_
          rw [decide_eq_false z]
          rfl
        exact ⟨.inl, fun z => z.elim id fun z => by rw [z]; exact hin2⟩
    · subst eσ
      rw [nI_len] at hlen
      refine ⟨_, rfl, q H' o ls sm no0 ho hls (fun t => ?_) (by omega)⟩
      rw [hmem t, take_all (by rw [nI_len])]
end
end Xr
set_option Elab.async false
set_option linter.all false
set_option maxRecDepth 100000
set_option maxHeartbeats 4000000
/-! The walks, 8: _law_taken, _law_left, _law_alike. -/
namespace Xr
open PySem PySem.Spec PyProof.Rows L2
theorem mem_cls_succ {ts : List (Addr × Cl)} {i : Nat} {x : Addr × Cl} (h : ts[i]? = some x) (d : Cl) : d ∈ cls (ts.take (i + 1)) ↔ d ∈ cls (ts.take i) ∨ d = x.2 := by
  rw [cls_take h, List.mem_append, List.mem_singleton]
theorem refs_filter (p : Addr × Cl → Bool) {ts : List (Addr × Cl)} {i : Nat} {x : Addr × Cl} (h : ts[i]? = some x) : refs ((ts.take (i + 1)).filter p) = refs ((ts.take i).filter p) ++ if p x = true then [V.ref x.1] else [] := by
  rw [filter_take p h]
  show List.map _ _ = _
  rw [List.map_append]
  congr 1
  split <;> rfl
theorem isi_LI {K : PySem.W.Frag} {H : Hp} {a : Addr} {xs : List V} (h : SqL K H a xs) : TyX K H (.ref a) (.type "list") := by
  rcases h with (h | ⟨o, h⟩) | ⟨o, its, n, h1, h2, _⟩
  · exact .base (.lst h)
  · exact .base (.frz h)
  · exact .kList h1 h2
theorem isi_TU {K : PySem.W.Frag} {H : Hp} {a : Addr} {xs : List V} (h : SqT K H a xs) : TyX K H (.ref a) (.type "tuple") := by
  rcases h with (h | ⟨o, h⟩) | ⟨o, its, n, h1, h2, _⟩
  · exact .base (.tup h)
  · exact .fTuple h
  · exact .kTuple h1 h2
/-- isinstance(x, T): the kinds a, b of x and T -/
theorem rIsi_of {K : PySem.W.Frag} {H : Hp} {x : V} {a b : String} {r : Bool} {Q : VK} (t : TyX K H x (.type a)) (h : kitB a b = some r) (q : Q (.bl r) H) : rIsi K [x, .ty b] H Q := ⟨x, .ty b, _, _, r, rfl, .ty b, t, kit_ty h, q⟩
theorem k_ii : kitB "int" "int" = some true := by decide +kernel
theorem k_it : kitB "int" "tuple" = some false := by decide +kernel
theorem k_ib : kitB "int" "bool" = some false := by decide +kernel
theorem k_li : kitB "list" "int" = some false := by decide +kernel
theorem k_lt : kitB "list" "tuple" = some false := by decide +kernel
theorem k_ll : kitB "list" "list" = some true := by decide +kernel
theorem k_ti : kitB "tuple" "int" = some false := by decide +kernel
theorem k_tt : kitB "tuple" "tuple" = some true := by decide +kernel
/-- what _law_alike finds alike: numbers, lists or tuples of such -/
def Alk (K : PySem.W.Frag) : Nat → Hp → V → V → Prop
  | 0, _, x, y => ∃ i : Int, x = .int i ∧ y = .int i
  | n + 1, H, x, y => (∃ i : Int, x = .int i ∧ y = .int i) ∨ ∃ (p q : Addr) (xs ys : List V), x = .ref p ∧ y = .ref q ∧ xs.length = ys.length ∧ ys.length ≤ 1000 ∧ ((SqL K H p xs ∧ SqL K H q ys) ∨ (SqT K H p xs ∧ SqT K H q ys)) ∧
      ∀ (i : Nat) x y, xs[i]? = some x → ys[i]? = some y → Alk K n H x y
theorem Alk.same {K : PySem.W.Frag} {H H' : Hp} (s : Same H H') : ∀ {n : Nat} {x y : V}, Alk K n H x y → Alk K n H' x y
  | 0, x, y, h => h
  | n + 1, x, y, h => by
    rcases h with h | ⟨p, q, xs, ys, e1, e2, l1, l2, h, each⟩
    · exact .inl h
    · refine .inr ⟨p, q, xs, ys, e1, e2, l1, l2, ?_, fun i x y h1 h2 => Alk.same s (each i x y h1 h2)⟩
      rcases h with ⟨h1, h2⟩ | ⟨h1, h2⟩
      · exact .inl ⟨Same.seq s h1, Same.seq s h2⟩
      · exact .inr ⟨Same.seqT s h1, Same.seqT s h2⟩
theorem alk_nI {K : PySem.W.Frag} {H : Hp} {p q : Addr} {l : List Nat} (n : Nat) (h1 : SqL K H p (nI l)) (h2 : SqL K H q (nI l)) (few : l.length ≤ 1000) : Alk K (n + 1) H (.ref p) (.ref q) := by
  refine .inr ⟨p, q, nI l, nI l, rfl, rfl, rfl, by rw [nI_len]; exact few, .inl ⟨h1, h2⟩, fun i x y e1 e2 => ?_⟩
  obtain ⟨k, hk, rfl⟩ := nI_at e1
  rw [e1] at e2
  cases e2
  cases n with
  | zero => exact ⟨_, rfl, rfl⟩
  | succ n => exact .inl ⟨_, rfl, rfl⟩
section
variable {P : Program} {w : World} {K : PySem.W.Frag} {mg : Str → Option Value} {base : Heap} {f : Addr} {fd : FuncData}
/-! ### _law_left -/
def spLeft (K : PySem.W.Frag) : Sp := fun vs H Q _ => ∃ (b g : Addr) (ts : List (Addr × Cl)) (gone : List Nat), vs = [.ref b, .ref g] ∧ CallsAt K H b ts ∧ SqL K H g (nI gone) ∧ ts.length ≤ 1000 ∧
  ∀ H' p, Same H H' → H p = none → H' p = some (.lst (refs (ts.filter fun t => !gone.contains t.2.c))) → Q (.ref p) H'
theorem scLeft : FnScope ["_law_calls", "_law_gone", "_law_call"] ["_law_calls", "_law_gone"] (defScope sLeft) := ⟨rfl, rfl, rfl, by decide +kernel, rfl, by decide +kernel, by decide +kernel⟩
theorem ok_left (F : FnP K "_law_left" sLeft [] f fd) : FnOk P w K mg base CX0 1 f fd ["_law_calls", "_law_gone"] (spLeft K) := by
  refine F.ok scLeft (fun vs H Q E h => ?_) (fun cdv A outer s H vs Q E hr h => ?_)
  · obtain ⟨b, g, ts, gone, rfl, _⟩ := h
    rfl
  · obtain ⟨b, g, ts, gone, rfl, hb, hg, few, q⟩ := h
    refine ⟨_, PSs.nox (pss_one (ps_ret (pe_lc (own := [("_law_call", 2)]) (g := gName 2) rfl scLeft.nd (pi_list (pv 0)) (blkOk_by (own := [("_law_call", 2)]) (N := ["_law_calls", "_law_gone", "_law_call"]) (sc := defScope sLeft) (by decide +kernel))
      (fun _ _ _ _ _ => pg_name (i := 2) scLeft.nd rfl (Or.inl rfl)) (fun _ _ _ _ _ => pts_one (pt_cmpR (notInK K) (pe_ix (ixT K) (pv 2) pe_int (fun _ _ => rfl)) (pv 1) (by rfl))) (fun _ _ _ _ _ => pv 2)))), ?_⟩
    refine ⟨_, rfl, b, rfl, ⟨_, hb.at_⟩, fun D nD => ?_⟩
    refine lcs_list (K := K) (a := b) (xs := refs ts) (fun i => refs ((ts.take i).filter fun t => !gone.contains t.2.c)) nD hb.at_ rfl (fun i hi => ?_) (fun i x H' Zt Zf hi sm zt zf => ?_) fun H' sm hD => ?_
    · have := filter_few (fun t : Addr × Cl => !gone.contains t.2.c) ts 1000 i few
      rw [List.length_map, sizeLine_eq]
      omega
    · obtain ⟨t, ht, rfl⟩ := refs_at hi
      obtain ⟨e, h1, h2⟩ := (hb.same sm).each t (List.mem_of_getElem? ht)
      have st := refs_filter (fun t : Addr × Cl => !gone.contains t.2.c) ht
      refine ⟨rfl, _, rfl, t.1, _, 0, _, rfl, rfl, h1, atI_nat (j := 0) rfl, _, rfl, g, _, rfl, .inl (Same.seq sm hg), rfl, flat_nI _, _, rfl, ?_⟩
      show if (!inV (I t.2.c) (nI gone)) = true then _ else _
      rw [inV_nI]
      cases hc : !gone.contains t.2.c with
      | true =>
        rw [hc] at st
        exact iteT ⟨_, rfl, zt _ _ (Same.refl _) st⟩
      | false =>
        rw [hc] at st
        exact iteF (zf _ (Same.refl _) (by rw [st]; exact List.append_nil _))
    · rw [take_all (by rw [List.length_map])] at hD
      exact q H' D sm nD hD
/-! ### _law_taken -/
def spTaken (K : PySem.W.Frag) : Sp := fun vs H Q _ => ∃ (a b : Addr) (h : Hall) (ts : List (Addr × Cl)), vs = [.ref a, .ref b] ∧ HallOk h ∧ SqT K H a (hallV h) ∧ CallsAt K H b ts ∧ (∀ t, t ∈ ts → ClOk h t.2) ∧ ts.length ≤ 1000 ∧
  ∀ H' p kvs, Same H H' → H p = none → H' p = some (.dT kvs) → DictIs kvs (fun t => ∃ d, d ∈ cls ts ∧ IsTaken h d t) → kvs.length ≤ 26000 → Q (.ref p) H'
theorem scTaken : FnScope ["_law_hall_here", "_law_calls", "_law_taken_here", "_law_call", "_law_end", "_law_line"] ["_law_hall_here", "_law_calls"] (defScope sTaken) := ⟨rfl, rfl, rfl, by decide +kernel, rfl, by decide +kernel, by decide +kernel⟩
theorem ok_taken (F : FnP K "_law_taken" sTaken [] f fd) (hL : Has P w K mg base "_law_lines" 1 ["_law_hall_here", "_law_caller", "_law_ends_here", "_law_k"] (spLines K)) :
    FnOk P w K mg base CX0 2 f fd ["_law_hall_here", "_law_calls"] (spTaken K) := by
  refine F.ok scTaken (fun vs H Q E h => ?_) (fun cdv A outer s H vs Q E hr h => ?_)
  · obtain ⟨a, b, h, ts, rfl, _⟩ := h
    rfl
  · obtain ⟨a, b, h, ts, rfl, hh, ha, hb, hok, few, q⟩ := h
    have hu := hu_of hr
    refine ⟨_, PSs.nox (pss_cons (ps_set (i := 2) scTaken.nd rfl (.inl rfl) pe_dnewT)
      (pss_cons (ps_for PassesOwn.never rfl (pi_list (pv 1)) (pg_name (i := 3) scTaken.nd rfl (.inl rfl))
        (pss_cons (ps_dput hu (pv 2) (pe_tup (pa_cons pe_str (pa_cons (pe_ix ix_tup (pv 3) pe_int (fun _ _ => rfl)) pa_nil))) pe_bl rfl)
        (pss_cons (ps_for PassesOwn.never rfl (pi_tup (pe_ix ix_tup (pv 3) pe_int (fun _ _ => rfl))) (pg_name (i := 4) scTaken.nd rfl (.inl rfl))
          (pss_one (ps_dput hu (pv 2) (pe_tup (pa_cons pe_str (pa_cons (pv 4) pa_nil))) pe_bl rfl)))
        (pss_one (ps_for PassesOwn.never rfl (pi_list (pe_has hL hr (by decide) (pa_cons (pv 0) (pa_cons (pe_ix ix_tup (pv 3) pe_int (fun _ _ => rfl)) (pa_cons (pe_ix ix_tup (pv 3) pe_int (fun _ _ => rfl)) (pa_cons (pe_ix ix_tup (pv 3) pe_int (fun _ _ => rfl)) pa_nil)))))) (pg_name (i := 5) scTaken.nd rfl (.inl rfl))
          (pss_one (ps_dput hu (pv 2) (pv 5) pe_bl rfl)))))))
      (pss_one (ps_ret (pv 2))))), ?_⟩
    intro o no
    refine ⟨_, rfl, b, rfl, ⟨_, (hb.same (same_upd no)).at_⟩, ?_⟩
    refine for_list (K := K) (a := b) (xs := refs ts) (fun i σ H' => ∃ (kvs : List (List Key × V)) (x3 x4 x5 : Option V), σ = [some (.ref a), some (.ref b), some (.ref o), x3, x4, x5] ∧ Same H H' ∧ H' o = some (.dT kvs) ∧
        DictIs kvs (fun t => ∃ d, d ∈ cls (ts.take i) ∧ IsTaken h d t) ∧ kvs.length ≤ 26 * i)
      ⟨[], none, none, none, rfl, same_upd no, upd_same, DictIs.nil.congr fun t => ⟨False.elim, fun ⟨d, hd, _⟩ => by cases hd⟩, Nat.le_refl _⟩ (fun i σ H' _ ⟨_, _, _, _, _, sm, _⟩ => (hb.same sm).at_) ?_ ?_
    · rintro i x σ H' hi ⟨kvs, x3, x4, x5, rfl, sm, ho, hd, hl⟩
      obtain ⟨t, ht, rfl⟩ := refs_at hi
      have hm : t ∈ ts := List.mem_of_getElem? ht
      obtain ⟨e, h1, h2⟩ := hb.each t hm
      have ok := hok t hm
      have ilt := (List.getElem?_eq_some_iff.mp ht).1
      have fewe := ok.few
      have put : ∀ {H1 : Hp} {v : HO}, Same H H1 → Same H (upd H1 o v) := fun {H1 v} s b u hu => by
        rw [upd_ne (ne_of_none hu no)]
        exact s b u hu
      -- taken["caller", call[0]] = True
      refine ⟨_, rfl, _, rfl, t.1, _, 0, _, rfl, rfl, Same.seqT sm h1, atI_nat (j := 0) rfl, by show 2 ≤ sizeLine; decide, fun p np => ?_⟩
      have sp : Same H' (upd H' p (tupT (.cal t.2.c))) := same_upd np
      refine ⟨o, _, rfl, DPut.t (k := keyOf (.cal t.2.c)) (sp _ _ ho) upd_same (by rw [sizeLine_eq]; omega), ?_⟩
      have sm1 : Same H (upd (upd H' p (tupT (.cal t.2.c))) o (.dT (putK kvs (keyOf (.cal t.2.c)) (.bl true)))) := put (sm.trans sp)
      have hd1 := hd.put (.cal t.2.c) (.bl true)
      have hl1 := length_putK kvs (keyOf (.cal t.2.c)) (.bl true)
      -- the ends
      refine ⟨_, rfl, t.1, _, 1, _, rfl, rfl, Same.seqT sm1 h1, atI_nat (j := 1) rfl, e, rfl, ⟨_, Same.seqT sm1 h2⟩, ?_⟩
      refine for_tup (K := K) (a := e) (xs := nI t.2.es) (fun j σ H' => ∃ (kvs' : List (List Key × V)) (x4 : Option V), σ = [some (.ref a), some (.ref b), some (.ref o), some (.ref t.1), x4, x5] ∧ Same H H' ∧ H' o = some (.dT kvs') ∧
          DictIs kvs' (fun u => ((∃ d, d ∈ cls (ts.take i) ∧ IsTaken h d u) ∨ u = .cal t.2.c) ∨ ∃ y, y ∈ t.2.es.take j ∧ u = .en y) ∧ kvs'.length ≤ 26 * i + 1 + j)
        ⟨_, x4, rfl, sm1, upd_same, hd1.congr fun u => ⟨.inl, fun z => z.elim id fun ⟨y, hy, _⟩ => by cases hy⟩, by omega⟩ (fun j σ H' _ ⟨_, _, _, sm2, _⟩ => Same.seqT sm2 h2) ?_ ?_
      · rintro j y σ H2 hj ⟨kvs2, x4', rfl, sm2, ho2, hd2, hl2⟩
        obtain ⟨n, hn, rfl⟩ := nI_at hj
        have jlt := (List.getElem?_eq_some_iff.mp hn).1
        refine ⟨_, rfl, _, rfl, by show 2 ≤ sizeLine; decide, fun p2 np2 => ?_⟩
        have sp2 : Same H2 (upd H2 p2 (tupT (.en n))) := same_upd np2
        refine ⟨o, _, rfl, DPut.t (k := keyOf (.en n)) (sp2 _ _ ho2) upd_same (by rw [sizeLine_eq]; omega), ?_⟩
        have hl3 := length_putK kvs2 (keyOf (.en n)) (.bl true)
        refine ⟨_, _, rfl, put (sm2.trans sp2), upd_same, (hd2.put (.en n) (.bl true)).congr fun u => ?_, by omega⟩
        constructor
        · rintro ((z | ⟨y, hy, z⟩) | z)
          · exact .inl z
          · exact .inr ⟨y, (mem_take_succ hn y).2 (.inl hy), z⟩
          · exact .inr ⟨n, (mem_take_succ hn n).2 (.inr rfl), z⟩
        · rintro (z | ⟨y, hy, z⟩)
          · exact .inl (.inl z)
          · rcases (mem_take_succ hn y).1 hy with hy | hy
            · exact .inl (.inr ⟨y, hy, z⟩)
            · rw [hy] at z
              exact .inr z
      · rintro σ H2 ⟨kvs2, x4', rfl, sm2, ho2, hd2, hl2⟩
        rw [nI_len] at hl2
        rw [take_all (l := t.2.es) (by rw [nI_len])] at hd2
        -- the lines
        have h1' := Same.seqT sm2 h1
        refine ⟨_, rfl, _, rfl, t.1, _, 0, _, rfl, rfl, h1', atI_nat (j := 0) rfl, _, rfl, t.1, _, 1, _, rfl, rfl, h1', atI_nat (j := 1) rfl, _, rfl, t.1, _, 2, _, rfl, rfl, h1', atI_nat (j := 2) rfl, a, e, h, t.2.c, t.2.es, t.2.k, rfl, hh, Same.seqT sm2 ha, .inr (Same.seqT sm2 h2), fewe, fun H3 p3 ls sm3' np3 hp3 hls hmem hlen => ?_⟩
        have sm3 := sm2.trans sm3'
        have nop : p3 ≠ o := fun z => by rw [z, ho2] at np3; cases np3
        refine ⟨p3, rfl, ⟨_, SqL.of hp3⟩, ?_⟩
        refine for_list (K := K) (a := p3) (xs := refT ls) (fun j σ H' => ∃ (kvs' : List (List Key × V)) (x5 : Option V), σ = [some (.ref a), some (.ref b), some (.ref o), some (.ref t.1), x4', x5] ∧ Same H H' ∧ H' p3 = some (.lst (refT ls)) ∧ EachT H' ls ∧ H' o = some (.dT kvs') ∧
            DictIs kvs' (fun u => (((∃ d, d ∈ cls (ts.take i) ∧ IsTaken h d u) ∨ u = .cal t.2.c) ∨ ∃ y, y ∈ t.2.es ∧ u = .en y) ∨ u ∈ tof (ls.take j)) ∧ kvs'.length ≤ 26 * i + 13 + j)
          ⟨_, x5, rfl, sm3, hp3, hls, sm3' _ _ ho2, hd2.congr fun u => ⟨.inl, fun z => z.elim id fun z => by cases z⟩, by omega⟩ (fun j σ H' _ ⟨_, _, _, _, hp, _⟩ => SqL.of hp) ?_ ?_
        · rintro j y σ H4 hj ⟨kvs4, x5', rfl, sm4, hp4, hls4, ho4, hd4, hl4⟩
          obtain ⟨u, hu', rfl⟩ := refT_at hj
          have jlt := (List.getElem?_eq_some_iff.mp hu').1
          have hux := hls4 u (List.mem_of_getElem? hu')
          have hl5 := length_putK kvs4 (keyOf u.2) (.bl true)
          refine ⟨_, rfl, _, rfl, o, _, rfl, DPut.t (k := keyOf u.2) ho4 hux (by rw [sizeLine_eq]; omega), ?_⟩
          refine ⟨_, _, rfl, put sm4, by rw [upd_ne nop]; exact hp4, fun x hx => ?_, upd_same, (hd4.put u.2 (.bl true)).congr fun v => ?_, by omega⟩
          · rw [upd_ne (ne_of (hls4 x hx) ho4 (by intro z; cases z))]
            exact hls4 x hx
          · have e1 : v ∈ tof (ls.take (j + 1)) ↔ v ∈ tof (ls.take j) ∨ v = u.2 := by
              show v ∈ List.map _ _ ↔ _
              rw [List.take_add_one, hu', List.map_append, List.mem_append]
              exact or_congr_right List.mem_singleton
            rw [e1]
            exact or_assoc
        · rintro σ H4 ⟨kvs4, x5', rfl, sm4, hp4, hls4, ho4, hd4, hl4⟩
          rw [List.length_map] at hl4
          rw [take_all (l := ls) (by rw [List.length_map])] at hd4
          refine ⟨kvs4, _, _, _, rfl, sm4, ho4, hd4.congr fun u => ?_, by omega⟩
          constructor
          · rintro (((⟨d, hd, z⟩ | z) | z) | z)
            · exact ⟨d, (mem_cls_succ ht d).2 (.inl hd), z⟩
            · exact ⟨t.2, (mem_cls_succ ht _).2 (.inr rfl), .inl z⟩
            · exact ⟨t.2, (mem_cls_succ ht _).2 (.inr rfl), .inr (.inl z)⟩
            · exact ⟨t.2, (mem_cls_succ ht _).2 (.inr rfl), .inr (.inr ((hmem u).1 z))⟩
          · rintro ⟨d, hd, z⟩
            rcases (mem_cls_succ ht d).1 hd with hd | hd
            · exact .inl (.inl (.inl ⟨d, hd, z⟩))
            · subst hd
              rcases z with z | z | z
              · exact .inl (.inl (.inr z))
              · exact .inl (.inr z)
              · exact .inr ((hmem u).2 z)
    · rintro σ H' ⟨kvs, x3, x4, x5, rfl, sm, ho, hd, hl⟩
      rw [List.length_map] at hl
      rw [take_all (by rw [List.length_map])] at hd
      exact ⟨_, rfl, q H' o kvs sm no ho hd (by omega)⟩
/-! ### _law_alike -/
def spAlike (K : PySem.W.Frag) (n : Nat) : Sp := fun vs H Q _ => ∃ x y, vs = [x, y] ∧ Alk K n H x y ∧ Q (.bl true) H
theorem scAlike : FnScope ["_law_found", "_law_due", "_law_k"] ["_law_found", "_law_due"] (defScope sAlike) := ⟨rfl, rfl, rfl, by decide +kernel, rfl, by decide +kernel, by decide +kernel⟩
theorem ok_alike (B : Bi mg) (F : FnP K "_law_alike" sAlike [] f fd) (hm : mg "_law_alike" = some (.ref f)) (hb : Binds K fd ["_law_found", "_law_due"] []) : ∀ n : Nat, FnOk P w K mg base CX0 (n + 1) f fd ["_law_found", "_law_due"] (spAlike K n) := by
  intro n
  induction n with
  | zero =>
    refine F.ok scAlike (fun vs H Q E h => ?_) (fun cdv A outer s H vs Q E hr h => ?_)
    · obtain ⟨x, y, rfl, _⟩ := h
      rfl
    · obtain ⟨x, y, rfl, ⟨i, rfl, rfl⟩, q⟩ := h
      refine ⟨_, PSs.nox (pss_cons (ps_if (pt_cmp (pc_isN (pv 1))) (pss_one (ps_ret (pe_cmp (pc_isN (pv 0)) rfl))) pss_nil)
        (pss_cons (ps_if (pt_val (pe_callB call_isi (by rfl) B.isi (by decide +kernel) (pa_cons (pv 1) (pa_cons (pe_bltn (v := .ty "int") (by rfl) B.int boot_int rfl) pa_nil))))
          (pss_one (ps_ret (pe_and (pe_callB call_isi (by rfl) B.isi (by decide +kernel) (pa_cons (pv 0) (pa_cons (pe_bltn (v := .ty "int") (by rfl) B.int boot_int rfl) pa_nil)))
            (pe_and (pe_not (pe_callB call_isi (by rfl) B.isi (by decide +kernel) (pa_cons (pv 0) (pa_cons (pe_bltn (v := .ty "bool") (by rfl) B.bool (by decide +kernel) rfl) pa_nil)))) (pe_one (pe_cmpR op_eq (pv 0) (pv 1) (nomark _))))))) pss_nil)
        pss_never)), ?_⟩
      refine ⟨_, rfl, _, rfl, ?_⟩
      refine ⟨_, rfl, _, _, _, _, _, rfl, .ty _, (.base (.int i)), kit_ty k_ii, _, rfl, ?_⟩
      refine ⟨_, rfl, _, _, _, _, _, rfl, .ty _, (.base (.int i)), kit_ty k_ii, _, rfl, iteT ?_⟩
      refine ⟨_, rfl, _, _, _, _, _, rfl, .ty _, (.base (.int i)), kit_ty k_ib, _, rfl, _, rfl, ?_⟩
      refine ⟨_, rfl, _, rfl, rfl, ?_⟩
      show Q (.bl (decide (V.int i = V.int i))) H
      rw [decide_eq_true rfl]
      exact q
  | succ n ih =>
    have hA : Has P w K mg base "_law_alike" (n + 1) ["_law_found", "_law_due"] (spAlike K n) := ⟨f, fd, ih, hm, F.kp, hb⟩
    refine F.ok scAlike (fun vs H Q E h => ?_) (fun cdv A outer s H vs Q E hr h => ?_)
    · obtain ⟨x, y, rfl, _⟩ := h
      rfl
    · obtain ⟨x, y, rfl, hal, q⟩ := h
      refine ⟨_, PSs.nox (pss_cons (ps_if (pt_cmp (pc_isN (pv 1))) (pss_one (ps_ret (pe_cmp (pc_isN (pv 0)) rfl))) pss_nil)
        (pss_cons (ps_if (pt_val (pe_callB call_isi (by rfl) B.isi (by decide +kernel) (pa_cons (pv 1) (pa_cons (pe_bltn (v := .ty "int") (by rfl) B.int boot_int rfl) pa_nil))))
          (pss_one (ps_ret (pe_and (pe_callB call_isi (by rfl) B.isi (by decide +kernel) (pa_cons (pv 0) (pa_cons (pe_bltn (v := .ty "int") (by rfl) B.int boot_int rfl) pa_nil)))
            (pe_and (pe_not (pe_callB call_isi (by rfl) B.isi (by decide +kernel) (pa_cons (pv 0) (pa_cons (pe_bltn (v := .ty "bool") (by rfl) B.bool (by decide +kernel) rfl) pa_nil)))) (pe_one (pe_cmpR op_eq (pv 0) (pv 1) (nomark _))))))) pss_nil)
        (Evl.pss_cut (ps_if (pt_val (pe_callB call_isi (by rfl) B.isi (by decide +kernel) (pa_cons (pv 1) (pa_cons (pe_bltn (v := .ty "tuple") (by rfl) B.tuple (by decide +kernel) rfl) pa_nil))))
          (pss_one (ps_if (pt_not (pt_val (pe_callB call_isi (by rfl) B.isi (by decide +kernel) (pa_cons (pv 0) (pa_cons (pe_bltn (v := .ty "tuple") (by rfl) B.tuple (by decide +kernel) rfl) pa_nil))))) (pss_one (ps_ret pe_bl)) pss_nil))
          (pss_one (ps_if (pt_not (pt_val (pe_callB call_isi (by rfl) B.isi (by decide +kernel) (pa_cons (pv 0) (pa_cons (pe_bltn (v := .ty "list") (by rfl) B.list (by decide +kernel) rfl) pa_nil))))) (pss_one (ps_ret pe_bl)) pss_nil)))
        (pss_cons (ps_if (pt_cmpR opn_ne (pe_callB (lenK K) (by rfl) B.len (by decide +kernel) (pa_cons (pv 0) pa_nil)) (pe_callB (lenK K) (by rfl) B.len (by decide +kernel) (pa_cons (pv 1) pa_nil)) (nomark _)) (pss_one (ps_ret pe_bl)) pss_nil)
        (pss_cons (ps_for PassesOwn.never rfl (pi_range1 (by rfl) B.range (pa_cons (pe_callB (lenK K) (by rfl) B.len (by decide +kernel) (pa_cons (pv 1) pa_nil)) pa_nil)) (pg_name (i := 2) scAlike.nd rfl (.inl rfl))
          (pss_one (ps_if (pt_not (pt_val (pe_has hA hr (Nat.le_refl _) (pa_cons (pe_ix (IxR.or ix_list ix_tup) (pv 0) (pv 2) (fun _ _ => rfl)) (pa_cons (pe_ix (IxR.or ix_list ix_tup) (pv 1) (pv 2) (fun _ _ => rfl)) pa_nil))))) (pss_one (ps_ret pe_bl)) pss_nil)))
        (pss_one (ps_ret pe_bl))))))), ?_⟩
      refine ⟨_, rfl, _, rfl, ?_⟩
      rcases hal with ⟨i, rfl, rfl⟩ | ⟨p, p', xs, ys, rfl, rfl, l1, l2, hs, each⟩
      · refine ⟨_, rfl, _, _, _, _, _, rfl, .ty _, (.base (.int i)), kit_ty k_ii, _, rfl, ?_⟩
        refine ⟨_, rfl, _, _, _, _, _, rfl, .ty _, (.base (.int i)), kit_ty k_ii, _, rfl, iteT ?_⟩
        refine ⟨_, rfl, _, _, _, _, _, rfl, .ty _, (.base (.int i)), kit_ty k_ib, _, rfl, _, rfl, ?_⟩
        refine ⟨_, rfl, _, rfl, rfl, ?_⟩
        show Q (.bl (decide (V.int i = V.int i))) H
        rw [decide_eq_true rfl]
        exact q
      · have rest : ∀ {R : Prop}, R → R := fun h => h
        rcases hs with ⟨hx, hy⟩ | ⟨hx, hy⟩
        · refine ⟨_, rfl, _, _, _, _, _, rfl, .ty _, (isi_LI hy), kit_ty k_li, _, rfl, ?_⟩
          refine ⟨fun σ H' => σ = [some (.ref p), some (.ref p'), none] ∧ H' = H, ?_, ?_⟩
          · refine ⟨_, rfl, _, _, _, _, _, rfl, .ty _, (isi_LI hy), kit_ty k_lt, _, rfl, ?_⟩
            exact ⟨_, rfl, _, _, _, _, _, rfl, .ty _, (isi_LI hx), kit_ty k_ll, _, rfl, rfl, rfl⟩
          · rintro σ H' ⟨rfl, rfl⟩
            refine ⟨_, rfl, p, _, rfl, .inl hx, _, rfl, p', _, rfl, .inl hy, _, _, rfl, rfl, _, rfl, ?_⟩
            rw [l1, decide_eq_true rfl]
            refine ⟨_, rfl, p', _, rfl, .inl hy, _, rfl, by omega, by omega, ?_⟩
            rw [Int.toNat_natCast]
            refine fors_range (n := ys.length) (fun i σ H2 => ∃ x2, σ = [some (.ref p), some (.ref p'), x2] ∧ H2 = H') ⟨none, rfl, rfl⟩ ?_ ?_
            · rintro i σ H2 hi ⟨x2, rfl, rfl⟩
              have gx : xs[i]? = some (xs[i]'(by omega)) := List.getElem?_eq_getElem (by omega)
              have gy : ys[i]? = some (ys[i]'hi) := List.getElem?_eq_getElem hi
              refine ⟨_, rfl, _, rfl, .inl ⟨p, _, _, _, rfl, rfl, hx, atI_nat gx, _, rfl, _, rfl, .inl ⟨p', _, _, _, rfl, rfl, hy, atI_nat gy, _, _, rfl, each i _ _ gx gy, _, rfl, ?_⟩⟩⟩
              exact ⟨_, rfl, rfl⟩
            · rintro σ H2 ⟨x2, rfl, rfl⟩
              exact q
        · refine ⟨_, rfl, _, _, _, _, _, rfl, .ty _, (isi_TU hy), kit_ty k_ti, _, rfl, ?_⟩
          refine ⟨fun σ H' => σ = [some (.ref p), some (.ref p'), none] ∧ H' = H, ?_, ?_⟩
          · refine ⟨_, rfl, _, _, _, _, _, rfl, .ty _, (isi_TU hy), kit_ty k_tt, _, rfl, ?_⟩
            exact ⟨_, rfl, _, _, _, _, _, rfl, .ty _, (isi_TU hx), kit_ty k_tt, _, rfl, rfl, rfl⟩
          · rintro σ H' ⟨rfl, rfl⟩
            refine ⟨_, rfl, p, _, rfl, .inr hx, _, rfl, p', _, rfl, .inr hy, _, _, rfl, rfl, _, rfl, ?_⟩
            rw [l1, decide_eq_true rfl]
            refine ⟨_, rfl, p', _, rfl, .inr hy, _, rfl, by omega, by omega, ?_⟩
            rw [Int.toNat_natCast]
            refine fors_range (n := ys.length) (fun i σ H2 => ∃ x2, σ = [some (.ref p), some (.ref p'), x2] ∧ H2 = H') ⟨none, rfl, rfl⟩ ?_ ?_
            · rintro i σ H2 hi ⟨x2, rfl, rfl⟩
              have gx : xs[i]? = some (xs[i]'(by omega)) := List.getElem?_eq_getElem (by omega)
              have gy : ys[i]? = some (ys[i]'hi) := List.getElem?_eq_getElem hi
              refine ⟨_, rfl, _, rfl, .inr ⟨p, _, _, _, rfl, rfl, hx, atI_nat gx, _, rfl, _, rfl, .inr ⟨p', _, _, _, rfl, rfl, hy, atI_nat gy, _, _, rfl, each i _ _ gx gy, _, rfl, ?_⟩⟩⟩
              exact ⟨_, rfl, rfl⟩
            · rintro σ H2 ⟨x2, rfl, rfl⟩
              exact q
end
end Xr
set_option Elab.async false
set_option linter.all false
set_option maxRecDepth 100000
set_option maxHeartbeats 4000000
/-! The walks, 9: _law_try. -/
namespace Xr
open PySem PySem.Spec PyProof.Rows L2
/-- all but what stands at d is as it was -/
def SameBut (d : Addr) (H H' : Hp) : Prop := ∀ b o, H b = some o → b ≠ d → H' b = some o
theorem sameBut_of {d : Addr} {H H' : Hp} (s : Same H H') : SameBut d H H' := fun b o e _ => s b o e
theorem refT_filter (p : Addr × T → Bool) {ls : List (Addr × T)} {i : Nat} {x : Addr × T} (h : ls[i]? = some x) : refT ((ls.take (i + 1)).filter p) = refT ((ls.take i).filter p) ++ if p x = true then [V.ref x.1] else [] := by
  rw [filter_take p h]
  show List.map _ _ = _
  rw [List.map_append]
  congr 1
  split <;> rfl
theorem tof_filter {kvs : List (List Key × V)} {ls : List (Addr × T)} (h : (((tof (ls.filter fun x => (valV kvs (keyOf x.2)).isSome)).map dT).isEmpty) = true) : ∀ x, x ∈ ls → (valV kvs (keyOf x.2)).isSome = false := fun x hx => by
  rw [List.isEmpty_map, List.isEmpty_map, List.isEmpty_iff, List.filter_eq_nil_iff] at h
  have := h x hx
  cases e : (valV kvs (keyOf x.2)).isSome with
  | false => rfl
  | true => exact absurd e this
section
variable {P : Program} {w : World} {K : PySem.W.Frag} {mg : Str → Option Value} {base : Heap} {f : Addr} {fd : FuncData}
def spTry (K : PySem.W.Frag) : Sp := fun vs H Q _ => ∃ (a d : Addr) (h : Hall) (n : Nat) (kvs : List (List Key × V)) (S : T → Prop), vs = [.ref a, .ref d, I n] ∧ HallOk h ∧ SqT K H a (hallV h) ∧ H d = some (.dT kvs) ∧ DictIs kvs S ∧ kvs.length ≤ 26000 ∧
  (∀ H', SameBut d H H' → Q .non H') ∧
  ∀ H' p nc, SameBut d H H' → ClAt K H' p nc → ClOk h nc → (∀ t, IsTaken h nc t → ¬ S t) → Q (.ref p) H'
theorem scTry : FnScope ["_law_hall_here", "_law_taken_here", "_law_number_here", "_law_caller", "_law_ends_here", "_law_step", "_law_k", "_law_need", "_law_one", "_law_end"] ["_law_hall_here", "_law_taken_here", "_law_number_here"] (defScope sTry) := ⟨rfl, rfl, rfl, by decide +kernel, rfl, by decide +kernel, by decide +kernel⟩
theorem ok_try (B : Bi mg) (F : FnP K "_law_try" sTry [] f fd) (hE : Has P w K mg base "_law_ends" 1 ["_law_hall_here", "_law_number_here"] (spEnds K))
    (hL : Has P w K mg base "_law_lines" 1 ["_law_hall_here", "_law_caller", "_law_ends_here", "_law_k"] (spLines K)) : FnOk P w K mg base CX0 2 f fd ["_law_hall_here", "_law_taken_here", "_law_number_here"] (spTry K) := by
  refine F.ok scTry (fun vs H Q E h => ?_) (fun cdv A outer s H vs Q E hr h => ?_)
  · obtain ⟨a, d, h, n, kvs, S, rfl, _⟩ := h
    rfl
  · obtain ⟨a, d, h, n, kvs, S, rfl, hh, ha, hd, hS, hl, qn, qc⟩ := h
    have hu := hu_of hr
    refine ⟨_, PSs.nox (pss_cons (ps_set (i := 3) scTry.nd rfl (.inl rfl) (pe_op opn_mod (pe_op opn_mod (pe_op opn_mul (pv 2) pe_int) pe_int) (pe_op opn_mul (pe_ix ix_tup (pv 0) pe_int (fun _ _ => rfl)) (pe_ix ix_tup (pv 0) pe_int (fun _ _ => rfl)))))
      (pss_cons (ps_set (i := 4) scTry.nd rfl (.inl rfl) (pe_callB cr_sortA (by rfl) B.sorted (by decide +kernel) (pa_cons (pe_has hE hr (by decide) (pa_cons (pv 0) (pa_cons (pv 2) pa_nil))) pa_nil)))
      (pss_cons (ps_for PassesOwn.never rfl (pi_range1 (by rfl) B.range (pa_cons (pe_callB (call_min2 rfl) (by rfl) B.min (by decide +kernel) (pa_cons (pe_ix ix_tup (pv 0) pe_int (fun _ _ => rfl)) (pa_cons pe_int pa_nil))) pa_nil)) (pg_name (i := 5) scTry.nd rfl (.inl rfl))
        (pss_cons (ps_set (i := 6) scTry.nd rfl (.inl rfl) (pe_op opn_mod (pe_op opn_add (pe_op opn_mod (pe_op opn_mul (pv 2) pe_int) pe_int) (pv 5)) (pe_ix ix_tup (pv 0) pe_int (fun _ _ => rfl))))
        (pss_cons (ps_set (i := 7) scTry.nd rfl (.inl rfl) (pe_op op_cat (pe_op op_cat (pe_has hL hr (by decide) (pa_cons (pv 0) (pa_cons (pv 3) (pa_cons (pv 4) (pa_cons (pv 6) pa_nil)))))
              (pe_lst (pa_cons (pe_tup (pa_cons pe_str (pa_cons (pv 3) pa_nil))) pa_nil)))
            (pe_lc (own := [("_law_end", 9)]) (g := gName 9) rfl scTry.nd (pi_list (pv 4)) (blkOk_by (own := [("_law_end", 9)]) (N := ["_law_hall_here", "_law_taken_here", "_law_number_here", "_law_caller", "_law_ends_here", "_law_step", "_law_k", "_law_need", "_law_one", "_law_end"]) (sc := defScope sTry) (by decide +kernel))
              (fun _ _ _ _ _ => pg_name (i := 9) scTry.nd rfl (Or.inl rfl)) (fun _ _ _ _ _ => pts_nil) (fun _ _ _ _ _ => pe_tup (pa_cons pe_str (pa_cons (pv 9) pa_nil))))))
        (pss_one (ps_if (pt_cmpR (op_eqD hr.units) (pe_lc (own := [("_law_one", 8)]) (g := gName 8) rfl scTry.nd (pi_list (pv 7)) (blkOk_by (own := [("_law_one", 8)]) (N := ["_law_hall_here", "_law_taken_here", "_law_number_here", "_law_caller", "_law_ends_here", "_law_step", "_law_k", "_law_need", "_law_one", "_law_end"]) (sc := defScope sTry) (by decide +kernel))
              (fun _ _ _ _ _ => pg_name (i := 8) scTry.nd rfl (Or.inl rfl)) (fun _ _ _ _ _ => pts_one (pt_cmp (pc_din hu (pv 8) (pv 1)))) (fun _ _ _ _ _ => pv 8)) (pe_lst pa_nil) (nomark _))
          (pss_cons (ps_for PassesOwn.never rfl (pi_list (pv 7)) (pg_name (i := 8) scTry.nd rfl (.inl rfl)) (pss_one (ps_dput hu (pv 1) (pv 8) pe_bl rfl)))
            (pss_one (ps_ret (pe_tup (pa_cons (pv 3) (pa_cons (pe_callTy call_tuple_of (by rfl) B.tuple (by decide +kernel) (pa_cons (pv 4) pa_nil)) (pa_cons (pv 6) pa_nil))))))) pss_nil)))))
      (pss_one (ps_ret pe_non))))), ?_⟩
    have i1 := hh.i1
    have i2 := hh.i2
    have c1 := hh.c1
    have c2 := hh.c2
    have a1 := hh.a1
    have a2 := hh.a2
    have pm : 1 ≤ h.ins * h.cal := Nat.mul_le_mul i1 c1
    have pm2 : h.ins * h.cal ≤ 12 * 12 := Nat.mul_le_mul i2 c2
    -- the caller
    refine ⟨_, rfl, _, 48271, rfl, rfl, by omega, _, 1000003, rfl, rfl, by omega, _, rfl, a, _, 0, _, rfl, rfl, ha, atI_nat (j := 0) rfl, _, rfl, a, _, 1, _, rfl, rfl, ha, atI_nat (j := 1) rfl, _, _, rfl, rfl, by omega, _, _, rfl, rfl, pm, ?_⟩
    dsimp only
    generalize hcd : n * 48271 % 1000003 % (h.ins * h.cal) = c
    have hc : c < h.ins * h.cal := by rw [← hcd]; exact Nat.mod_lt _ pm
    -- the ends
    refine ⟨_, rfl, _, rfl, a, h, n, rfl, hh, ha, fun H1 p1 es0 sm1 n1 hp1 hin0 few0 => ?_⟩
    refine ⟨p1, zI es0, rfl, by rw [← nI_int]; exact .inl (SqL.of hp1), by rw [List.length_map]; omega, fun ms p pm' ps np => ?_⟩
    obtain ⟨es, el, pl, _⟩ := nat_perm pm' ps
    have sm2 := sm1.trans (same_upd (o := .lst (ms.map V.int)) np)
    have hp : upd H1 p (.lst (ms.map V.int)) p = some (.lst (nI es)) := by rw [upd_same, el]
    have few : es.length ≤ 12 := by rw [pl.length_eq]; exact few0
    have hin : EndsIn h es := fun e he => hin0 e (pl.mem_iff.mp he)
    generalize upd H1 p (.lst (ms.map V.int)) = H2 at sm2 hp
    -- the steps
    refine ⟨_, rfl, a, _, 2, _, rfl, rfl, Same.seqT sm2 ha, atI_nat (j := 2) rfl, _, 6, rfl, _, rfl, ?_, ?_, ?_⟩
    · split <;> omega
    · split <;> omega
    generalize hst : (if (6 : Int) < (h.amid : Int) then (6 : Int) else (h.amid : Int)).toNat = st
    refine fors_range (n := st) (fun i σ H' => ∃ x5 x6 x7 x8 : Option V, σ = [some (.ref a), some (.ref d), some (I n), some (I c), some (.ref p), x5, x6, x7, x8, none] ∧ Same H H' ∧ H' p = some (.lst (nI es)))
      ⟨none, none, none, none, rfl, sm2, hp⟩ ?_ ?_
    · rintro i σ H3 hi ⟨x5, x6, x7, x8, rfl, sm3, hp3⟩
      refine ⟨_, rfl, _, 40692, rfl, rfl, by omega, _, 999979, rfl, rfl, by omega, _, rfl, _, _, rfl, rfl, _, rfl, a, _, 2, _, rfl, rfl, Same.seqT sm3 ha, atI_nat (j := 2) rfl, _, _, rfl, rfl, a1, ?_⟩
      dsimp only
      generalize hkd : (n * 40692 % 999979 + i) % h.amid = k
      have hk : k < h.amid := by rw [← hkd]; exact Nat.mod_lt _ a1
      -- need
      refine ⟨_, rfl, _, rfl, _, rfl, _, rfl, a, p, h, c, es, k, rfl, hh, Same.seqT sm3 ha, .inl (SqL.of hp3), few, fun H4 q4 ls sm4' nq4 hq4 hls hmem hlen => ?_⟩
      have sm4 := sm3.trans sm4'
      have hp4 := sm4' _ _ hp3
      refine ⟨_, rfl, by show 2 ≤ sizeLine; decide, fun p5 np5 => ?_⟩
      have s5 := same_upd (o := tupT (.cal c)) np5
      have h5 : upd H4 p5 (tupT (.cal c)) p5 = some (tupT (.cal c)) := upd_same
      refine ⟨by show 1 ≤ sizeLine; decide, fun q5 nq5 => ?_⟩
      have s6 := same_upd (o := .lst [V.ref p5]) nq5
      refine ⟨q4, q5, _, _, rfl, rfl, s6 _ _ (s5 _ _ hq4), upd_same, by rw [List.length_map, sizeLine_eq]; show ls.length + 1 ≤ _; omega, fun q7 nq7 => ?_⟩
      have e7 : refT ls ++ [V.ref p5] = refT (ls ++ [(p5, .cal c)]) := (refT_snoc ls (p5, .cal c)).symm
      rw [e7]
      have s7 := same_upd (o := .lst (refT (ls ++ [(p5, .cal c)]))) nq7
      have s47 := (s5.trans s6).trans s7
      have each7 := EachT.snoc (p := p5) (t := .cal c) (hls.same s47) (s7 _ _ (s6 _ _ h5))
      refine ⟨_, rfl, p, rfl, ⟨_, SqL.of (s47 _ _ hp4)⟩, fun D nD => ?_⟩
      have nD4 : H4 D = none := s47.free nD
      have qD : q7 ≠ D := ne_of_none upd_same nD
      refine lc_list (K := K) (a := p) (xs := nI es) (fun j H' => ∃ ms : List (Addr × T), Same H4 H' ∧ EachT H' (ls ++ [(p5, .cal c)]) ∧ H' q7 = some (.lst (refT (ls ++ [(p5, .cal c)]))) ∧ H' D = some (.lst (refT ms)) ∧ EachT H' ms ∧ tof ms = (es.take j).map T.en)
        ⟨[], s47.trans (same_upd nD), each7.same (same_upd nD), (same_upd nD) _ _ upd_same, upd_same, fun x hx => (nomatch hx), rfl⟩ (fun j H' _ ⟨_, sm, _⟩ => SqL.of (sm _ _ hp4)) (fun j x H8 hj ⟨ms, sm8, ea8, hq8, hD8, em8, tm8⟩ => ?_) fun H8 ⟨ms, sm8, ea8, hq8, hD8, em8, tm8⟩ => ?_
      · obtain ⟨e, he, rfl⟩ := nI_at hj
        have jlt := (List.getElem?_eq_some_iff.mp he).1
        have ml : ms.length ≤ 12 := by
          have h1 := congrArg List.length tm8
          rw [List.length_map, List.length_map, List.length_take] at h1
          have := Nat.min_le_right j es.length
          omega
        refine ⟨rfl, _, rfl, by show 2 ≤ sizeLine; decide, fun z nz => ?_⟩
        have s9 : Same H8 (upd H8 z (tupT (.en e))) := same_upd nz
        have h9 : upd H8 z (tupT (.en e)) z = some (tupT (.en e)) := upd_same
        have offD : ∀ {x : Addr × T}, upd H8 z (tupT (.en e)) x.1 = some (tupT x.2) → upd (upd H8 z (tupT (.en e))) D (.lst (refT ms ++ [V.ref z])) x.1 = some (tupT x.2) := fun {x} hx => by
          rw [upd_ne (ne_of hx (s9 _ _ hD8) (by intro w; cases w))]
          exact hx
        refine ⟨refT ms, s9 _ _ hD8, by rw [List.length_map, sizeLine_eq]; omega, ms ++ [(z, .en e)], same_D nD4 (sm8.trans s9), fun x hx => offD (ea8.same s9 x hx), by rw [upd_ne qD]; exact s9 _ _ hq8, by rw [upd_same, refT_snoc], fun x hx => offD (EachT.snoc (em8.same s9) (p := z) (t := .en e) h9 x hx), ?_⟩
        show List.map _ _ = _
        rw [List.map_append, List.take_add_one, he, List.map_append]
        show tof ms ++ _ = _
        rw [tm8]
        rfl
      rw [take_all (l := es) (by rw [nI_len])] at tm8
      have ml : ms.length ≤ 12 := by
        have h1 := congrArg List.length tm8
        rw [List.length_map, List.length_map] at h1
        omega
      have hp8 := sm8 _ _ hp4
      refine ⟨q7, D, _, _, rfl, rfl, hq8, hD8, by rw [List.length_map, List.length_map, List.length_append, sizeLine_eq]; show ls.length + 1 + ms.length ≤ _; omega, fun q9 nq9 => ?_⟩
      have e9 : refT (ls ++ [(p5, .cal c)]) ++ refT ms = refT (ls ++ [(p5, .cal c)] ++ ms) := (List.map_append ..).symm
      rw [e9]
      have each8 : EachT H8 (ls ++ [(p5, .cal c)] ++ ms) := fun x hx => by
        rcases List.mem_append.mp hx with hx | hx
        · exact ea8 x hx
        · exact em8 x hx
      have nlen : (ls ++ [(p5, T.cal c)] ++ ms).length ≤ 26 := by
        rw [List.length_append, List.length_append]
        show ls.length + 1 + ms.length ≤ 26
        omega
      have ntof : ∀ t, t ∈ tof (ls ++ [(p5, T.cal c)] ++ ms) ↔ IsTaken h ⟨c, es, k⟩ t := fun t => by
        show t ∈ List.map _ _ ↔ _
        rw [List.map_append, List.map_append, List.mem_append, List.mem_append]
        show ((t ∈ tof ls ∨ t ∈ [T.cal c]) ∨ t ∈ tof ms) ↔ _
        rw [hmem t, List.mem_singleton, tm8, List.mem_map]
        unfold IsTaken
        constructor
        · rintro ((z | z) | ⟨e, he, z⟩)
          · exact .inr (.inr z)
          · exact .inl z
          · exact .inr (.inl ⟨e, he, z.symm⟩)
        · rintro (z | ⟨e, he, z⟩ | z)
          · exact .inl (.inr z)
          · exact .inr ⟨e, he, z.symm⟩
          · exact .inl (.inl z)
      generalize ls ++ [(p5, T.cal c)] ++ ms = need at each8 nlen ntof ⊢
      have s9 := same_upd (o := .lst (refT need)) nq9
      have h9 : upd H8 q9 (.lst (refT need)) q9 = some (.lst (refT need)) := upd_same
      have each9 := each8.same s9
      have sm9 := (sm4.trans sm8).trans s9
      have hd9 := sm9 _ _ hd
      have hp9 := s9 _ _ hp8
      -- [one for one in need if one in taken] == []
      refine ⟨_, rfl, q9, rfl, ⟨_, SqL.of h9⟩, fun D2 nD2 => ?_⟩
      refine lcs_list (K := K) (a := q9) (xs := refT need) (fun j => refT ((need.take j).filter fun x => (valV kvs (keyOf x.2)).isSome)) nD2 (SqL.of h9) rfl (fun j hj => ?_) (fun j y H10 Zt Zf hj sm10 zt zf => ?_) fun H10 sm10 hD10 => ?_
      · have := filter_few (fun x : Addr × T => (valV kvs (keyOf x.2)).isSome) need 26 j nlen
        rw [List.length_map, sizeLine_eq]
        omega
      · obtain ⟨x, hx, rfl⟩ := refT_at hj
        have hx10 := sm10 _ _ (each9 x (List.mem_of_getElem? hx))
        have stp := refT_filter (fun x : Addr × T => (valV kvs (keyOf x.2)).isSome) hx
        refine ⟨rfl, _, rfl, _, rfl, d, _, rfl, DGet.t (k := keyOf x.2) (sm10 _ _ hd9) hx10, _, rfl, ?_⟩
        cases hv : (valV kvs (keyOf x.2)).isSome with
        | true =>
          rw [hv] at stp
          exact iteT ⟨_, rfl, zt _ _ (Same.refl _) stp⟩
        | false =>
          rw [hv] at stp
          exact iteF (zf _ (Same.refl _) (by rw [stp]; exact List.append_nil _))
      rw [take_all (l := need) (by rw [List.length_map])] at hD10
      refine ⟨Nat.zero_le _, fun q11 nq11 => ?_⟩
      have s11 := same_upd (o := .lst []) nq11
      have h11 : upd H10 q11 (.lst []) q11 = some (.lst []) := upd_same
      have sm11 := (sm9.trans sm10).trans s11
      have s911 := sm10.trans s11
      have each11 : EachT (upd H10 q11 (.lst [])) (need.filter fun x => (valV kvs (keyOf x.2)).isSome) := fun x hx => s911 _ _ (each9 x (List.mem_filter.mp hx).1)
      refine rEq_nil (SqL.of (s11 _ _ hD10)) (SqL.of h11) (dp_Ts _ each11) (sh_Ts _) ⟨_, rfl, ?_⟩
      refine ite2 (fun hempty => ?_) (fun _ => ?_)
      · have none_ := tof_filter hempty
        -- the marks
        refine ⟨_, rfl, q9, rfl, ⟨_, SqL.of (s911 _ _ h9)⟩, ?_⟩
        have nd9 : q9 ≠ d := ne_of h9 hd9 (by intro w; cases w)
        have ndp : p ≠ d := ne_of hp9 hd9 (by intro w; cases w)
        refine for_list (K := K) (a := q9) (xs := refT need) (fun j σ H' => ∃ (kv2 : List (List Key × V)) (x8 : Option V), σ = [some (.ref a), some (.ref d), some (I n), some (I c), some (.ref p), some (I i), some (I k), some (.ref q9), x8, none] ∧ SameBut d H H' ∧ H' q9 = some (.lst (refT need)) ∧ EachT H' need ∧ H' p = some (.lst (nI es)) ∧
            H' d = some (.dT kv2) ∧ kv2.length ≤ 26000 + j)
          ⟨kvs, x8, rfl, sameBut_of sm11, s911 _ _ h9, each9.same s911, s911 _ _ hp9, sm11 _ _ hd, hl⟩ (fun j σ H' _ ⟨_, _, _, _, h9', _⟩ => SqL.of h9') ?_ ?_
        · rintro j y σ H12 hj ⟨kv2, x8', rfl, sb, h9', em, hp', hd', hl'⟩
          obtain ⟨x, hx, rfl⟩ := refT_at hj
          have jlt := (List.getElem?_eq_some_iff.mp hx).1
          have hl2 := length_putK kv2 (keyOf x.2) (.bl true)
          refine ⟨_, rfl, _, rfl, d, _, rfl, DPut.t (k := keyOf x.2) hd' (em x (List.mem_of_getElem? hx)) (by rw [sizeLine_eq]; omega), ?_⟩
          refine ⟨_, _, rfl, fun b u hb nb => ?_, by rw [upd_ne nd9]; exact h9', fun z hz => ?_, by rw [upd_ne ndp]; exact hp', upd_same, by omega⟩
          · rw [upd_ne nb]
            exact sb b u hb nb
          · rw [upd_ne (ne_of (em z hz) hd' (by intro w; cases w))]
            exact em z hz
        · rintro σ H12 ⟨kv2, x8', rfl, sb, h9', em, hp', hd', hl'⟩
          refine ⟨_, rfl, _, rfl, p, _, rfl, .inl ⟨SqL.of hp', fun t nt => ⟨_, rfl, by show 3 ≤ sizeLine; decide, fun r nr => ?_⟩⟩⟩
          have s13 := same_upd (o := .tup (nI es)) nt
          have h13 : upd H12 t (.tup (nI es)) t = some (.tup (nI es)) := upd_same
          have s14 := same_upd (o := .tup [I c, .ref t, I k]) nr
          refine qc _ r ⟨c, es, k⟩ (fun b u hb nb => s14 _ _ (s13 _ _ (sb b u hb nb))) ⟨t, SqT.of upd_same, SqT.of (s14 _ _ h13)⟩ ⟨hc, hin, hk, few⟩ fun u hu' hSu => ?_
          obtain ⟨x, hx, rfl⟩ := List.mem_map.mp ((ntof u).2 hu')
          have h1 := none_ x hx
          rw [(hS x.2).2 hSu] at h1
          cases h1
      · exact ⟨_, _, _, _, rfl, sm11, s911 _ _ hp9⟩
    · rintro σ H3 ⟨x5, x6, x7, x8, rfl, sm3, hp3⟩
      exact qn H3 (sameBut_of sm3)
end
end Xr
set_option Elab.async false
set_option linter.all false
set_option maxRecDepth 100000
set_option maxHeartbeats 4000000
/-! Rules that the layer lacks, 2: set(xs) of a list of whole numbers. -/
namespace Xr
open PySem PySem.Spec PyProof.Rows L2
abbrev newSet (w : World) : Obj := { cls := .type "set", dict := none, data := .set #[] 0 (.fresh 0 0 (!w.params.followText "set-order")) }
section
variable {P : Program} {w : World} {A : Around} {E : Value → Shared → Prop} {s : Shared}
/-- the list at l put into the set at a, which is new -/
theorem set_fill {A' : Around} {a l : Addr} {its : Array Value} {ns : List Int} (calm : A'.handled = none) (new : s.heap.get? a = some (newSet w)) (lis : s.heap.IsList l its) (ne : l ≠ a) (nums : IntsAre its.toList ns) (room : ns.length + 1 < scanBound) {R : Result → Shared → Prop}
    (h : ∀ (g : Heap) (tk c : Nat), SetR w g a (fun j => decide (j ∈ ns)) c → c ≤ ns.length → (∀ b o, b ≠ a → s.heap.get? b = some o → g.get? b = some o) → R (.ok (.ret .none)) { s with heap := g, toks := tk }) :
    wpAny (model P w) A (pyIter (.ref l)) (fun it s' => codeAny (model P w) A' (.builtin "set.update.loop" ⟨[.ref a, it], []⟩) R s') E s := by
  have inL : l < s.heap.objs.size := by
    obtain ⟨o, e, _⟩ := id lis
    exact Heap.lt_size e
  have inA : a < s.heap.objs.size := Heap.lt_size new
  have size : its.size = ns.length := (Array.length_toList (xs := its)).symm.trans (IntsAre.length nums)
  have apart : a ∉ [s.heap.objs.size, l] := fun z => by
    rcases List.mem_cons.mp z with z | z
    · exact absurd inA (by rw [z]; exact Nat.lt_irrefl _)
    · exact ne (List.mem_singleton.mp z).symm
  refine wpAny_pyIter_list lis (set_update_ints ((Walks.list (by simp [calm]) _ l (Nat.ne_of_lt inL) its).toS) a apart ns size room (fun i v hv => ?_) its.size 0 _ (Nat.sub_zero _) (Nat.zero_le _) ⟨⟨_, Heap.get?_push_size _ rfl, rfl, rfl⟩, lis.push _⟩ ⟨0, Nat.le_refl 0, setR_new_at (Heap.get?_push_of_some _ new)⟩ fun s' c mv few made => ?_)
  · obtain ⟨lt, _⟩ := Array.getElem?_eq_some_iff.mp hv
    obtain ⟨t, e⟩ := IntsAre.int_at nums i v (by rw [Array.getElem?_toList]; exact hv)
    have at_ : ns[i]? = some (ns[i]'(by omega)) := List.getElem?_eq_getElem (by omega)
    refine ⟨_, t, at_, ?_⟩
    rw [e, List.getD_eq_getElem?_getD, at_]
    rfl
  · have back : s' = { s with heap := s'.heap, toks := s'.toks } := by
      have m1 := mv.gens
      have m2 := mv.drawn
      have m3 := mv.os
      cases s'
      dsimp only at m1 m2 m3
      rw [m1, m2, m3]
    rw [back]
    refine h s'.heap s'.toks c made (by omega) fun b o hb e => mv.heap b o (fun z => ?_) (Heap.get?_push_of_some _ e)
    rcases List.mem_cons.mp z with z | z
    · exact hb z
    · exact absurd (Heap.lt_size e) (by rw [List.mem_singleton.mp z]; exact Nat.lt_irrefl _)
/-- set.__init__ of a list of whole numbers -/
theorem set_init {a l : Addr} {its : Array Value} {ns : List Int} {R : PySem.Fin → Shared → Prop} (calm : A.handled = none) (new : s.heap.get? a = some (newSet w)) (lis : s.heap.IsList l its) (ne : l ≠ a) (nums : IntsAre its.toList ns) (room : ns.length + 1 < scanBound)
    (h : ∀ (g : Heap) (tk c : Nat), SetR w g a (fun j => decide (j ∈ ns)) c → c ≤ ns.length → (∀ b o, b ≠ a → s.heap.get? b = some o → g.get? b = some o) → R (.done (.ret .none)) { s with heap := g, toks := tk }) :
    wpAny (model P w) A (Builtin.«set.__init__» ⟨[.ref a, .ref l], []⟩) R E s := by
  have keep := lis
  obtain ⟨⟨k1, k2, k3, k4⟩, objL, isL, n, dataL⟩ := lis
  dsimp only at isL dataL
  subst isL dataL
  have q1 := F.sub_list_set
  have q2 := F.sub_list_frozenset
  have q3 : (Value.type "list" == Value.type "dict") = false := by decide
  have typA : s.heap.get? a = some { cls := .type "set", dict := none, data := .set #[] 0 (.fresh 0 0 (!w.params.followText "set-order")) } := new
  unfold Builtin.«set.__init__» Builtin.Frozenset.updateFrom noKeywords
  generalize walk : pyIter = PI
  wp_walk
  subst walk
  refine thn (set_fill (A' := A) (R := fun r s2 => r = .ok (.ret .none) ∧ ∃ (g : Heap) (tk c : Nat), s2 = { s with heap := g, toks := tk } ∧ SetR w g a (fun j => decide (j ∈ ns)) c ∧ c ≤ ns.length ∧ ∀ b o, b ≠ a → s.heap.get? b = some o → g.get? b = some o) calm new keep ne nums room fun g tk c y1 y2 y3 => ⟨rfl, g, tk, c, rfl, y1, y2, y3⟩) fun it s2 run => ?_
  refine wpAny_bind (wpAny_runValue (codeAny_mono run fun r s3 z => ?_))
  obtain ⟨rfl, g, tk, c, rfl, y1, y2, y3⟩ := z
  exact wpAny_pure (wpAny_pure (h g tk c y1 y2 y3))
set_option maxHeartbeats 8000000 in
theorem raw_set {l : Addr} {its : Array Value} {ns : List Int} {Q : Value → Shared → Prop} (calm : A.handled = none) (lis : s.heap.IsList l its) (nums : IntsAre its.toList ns) (room : ns.length + 1 < scanBound)
    (h : ∀ (g : Heap) (tk c : Nat), SetR w g s.heap.objs.size (fun j => decide (j ∈ ns)) c → c ≤ ns.length → (∀ b o, s.heap.get? b = some o → g.get? b = some o) → Q (.ref s.heap.objs.size) { s with heap := g, toks := tk }) :
    wpAny (model P w) A (call (.type "set") [.ref l]) Q E s := by
  obtain ⟨mc, mt, order⟩ := F.called_set.mro
  have q1 := F.called_set.made
  have q2 := F.called_set.sub
  have q3 := F.called_set.notType
  have q4 := F.called_set.canCreate
  have q5 := F.typeCall_set_1 (.ref l)
  have q6 := F.called_set.init.lookup
  have q7 := F.called_set.init.bind (.ref s.heap.objs.size)
  have inL : l < s.heap.objs.size := by
    obtain ⟨o, e, _⟩ := id lis
    exact Heap.lt_size e
  have made : (s.heap.push (newSet w)).get? s.heap.objs.size = some (newSet w) := Heap.get?_push_size _ rfl
  have typ : Shared.TypeIs { s with heap := s.heap.push (newSet w) } (.ref s.heap.objs.size) "set" := ⟨_, made, rfl⟩
  refine wpAny_call (codeAny_of_tree (show wpAny _ _ (callAny (.type "set") _) _ _ _ from wpAny_pure ⟨Code.quiet_builtin _ (by decide +kernel), codeAny_builtin F.entry_type_call ?_⟩))
  rw [Around.under_plain (weight_type_call_type "set" [.ref l] []) (by rfl)]
  repeat any_goals (first | assumption | wp_step)
  refine codeAny_mono (code_set_led1 (.ref l) (E := E) (Q₁ := fun v s1 => v = .ref s.heap.objs.size ∧ s1 = { s with heap := s.heap.push (newSet w) }) ⟨rfl, rfl⟩) fun r s1 first => ?_
  match r, first with
  | .error e, first => exact first
  | .ok .next, first => exact first.elim
  | .ok .brk, first => exact first.elim
  | .ok .cont, first => exact first.elim
  | .ok (.ret v), first =>
    obtain ⟨rfl, rfl⟩ := first
    repeat any_goals (first | assumption | wp_step)
    refine codeAny_mono (codeAny_call_builtin (R := wants (fun v s2 => v = .none ∧ ∃ (g : Heap) (tk c : Nat), s2 = { s with heap := g, toks := tk } ∧ SetR w g s.heap.objs.size (fun j => decide (j ∈ ns)) c ∧ c ≤ ns.length ∧ ∀ b o, s.heap.get? b = some o → g.get? b = some o) E) F.called_set.init.plain F.entry_set_init
      (check_set_init_1 typ (set_init (by simp [calm]) made (lis.push _) (Nat.ne_of_lt inL) nums room fun g tk c y1 y2 y3 => ⟨rfl, g, tk, c, rfl, y1, y2, fun b o e => y3 b o (Nat.ne_of_lt (Heap.lt_size e)) (Heap.get?_push_of_some _ e)⟩))) fun r2 s2 second => ?_
    match r2, second with
    | .error e, second => exact second
    | .ok .next, second => exact second.elim
    | .ok .brk, second => exact second.elim
    | .ok .cont, second => exact second.elim
    | .ok (.ret v2), second =>
      obtain ⟨rfl, g, tk, c, rfl, y1, y2, y3⟩ := second
      repeat any_goals (first | assumption | wp_step)
      exact h g tk c y1 y2 y3
end
section
variable {X : Cx}
/-- set(l), a list of whole numbers -/
def rSetI (K : PySem.W.Frag) (w : World) : List V → Hp → VK → Prop := fun vs H Q => ∃ (l : Addr) (ns : List Int), vs = [V.ref l] ∧ SqL K H l (ns.map V.int) ∧ ns.length + 1 < scanBound ∧
  ∀ (p : Addr) (c : Nat), H p = none → c ≤ ns.length → Q (.ref p) (upd H p (SetO w p (fun j => decide (j ∈ ns)) c))
theorem cr_setI (hc : X.calm = true) : CallR X (.type "set") (rSetI X.K X.w) := by
  intro pins s σ H vs us Q I r h
  obtain ⟨l, ns, rfl, hs, room, q⟩ := h
  rw [Vals.ref1 r]
  obtain ⟨its, rv, hl, hlen⟩ := I.list hs
  refine raw_set (ns := ns) (I.ok.hd hc) hl.isList (by simpa using ints_of_vals rv) room fun g tk c hS hc2 hk => ?_
  exact ⟨.ref _, upd H s.heap.objs.size (SetO X.w s.heap.objs.size (fun j => decide (j ∈ ns)) c), I.laid (t' := tk) hk (Nat.le_refl _) (setO_new hS), rfl, q _ c (I.hok.fresh (Nat.le_refl _)) hc2⟩
end
end Xr
set_option Elab.async false
set_option linter.all false
set_option maxRecDepth 100000
set_option maxHeartbeats 4000000
/-! Rules that the layer lacks, 3: sorted(a list of calls). -/
namespace Xr
open PySem PySem.Spec PyProof.Rows L2
/-! ### the order of calls -/
abbrev dT2 (b : Addr × Cl) : PyData := dC b.2
theorem alike_dI (l m : List Nat) : PySem.W.alikeAll (dI l) (dI m) = true := by
  have e : ∀ l : List Nat, dI l = (l.map fun n : Nat => (n : Int)).map PyData.int := fun l => by
    unfold dI
    rw [List.map_map]
    rfl
  rw [e l, e m]
  exact PySem.W.alike_ints _ _
theorem alike_C (d e : Cl) : PySem.W.alike (dC d) (dC e) = true := by
  unfold dC
  simp only [PySem.W.alike, PySem.W.alikeAll, alike_dI, Bool.and_self]
theorem le_callers {x y : Addr × Cl} (h : PySem.W.dataLe false dT2 x y = true) : x.2.c ≤ y.2.c := by
  rw [PySem.W.dataLe_eq] at h
  refine Nat.le_of_not_lt fun lt => ?_
  have e : PySem.W.dataLt (dT2 y) (dT2 x) = true := by
    show PySem.W.dataLt (.tuple _) (.tuple _) = true
    rw [PySem.W.dataLt_tuple, PySem.W.dataLt_cons (by simp only [PySem.W.alike]), PySem.W.dataLt_int]
    have ne : ¬ ((y.2.c : Int) = (x.2.c : Int)) := by omega
    rw [if_neg (by simp only [PyData.eqv, beq_iff_eq]; exact ne), decide_eq_true_eq]
    omega
  rw [show (fun a b : Addr × Cl => cond false (!PySem.W.dataLt (dT2 a) (dT2 b)) (!PySem.W.dataLt (dT2 b) (dT2 a))) x y = !PySem.W.dataLt (dT2 y) (dT2 x) from rfl, e] at h
  exact absurd h (by decide)
theorem each_refs : ∀ {ts : List (Addr × Cl)} {us : List Value}, Vals (refs ts) us → PySem.W.EachIs (fun v (b : Addr × Cl) => v = Value.ref b.1) us ts
  | [], _, r => by
    cases r
    exact .nil
  | t :: ts, _, r => by
    cases r with
    | cons r1 r2 => exact .cons r1 (each_refs r2)
theorem refs_each : ∀ {ts : List (Addr × Cl)} {us : List Value}, PySem.W.EachIs (fun v (b : Addr × Cl) => v = Value.ref b.1) us ts → Vals (refs ts) us
  | _, _, .nil => .nil
  | _, _, .cons h t => .cons h (refs_each t)
theorem each_reads {X : Cx} {pins : List (Addr × Obj)} {σ : L2.St} {H : Hp} {s : Shared} (I : Inv X pins σ H s) : ∀ {ts : List (Addr × Cl)} {us : List Value}, Vals (refs ts) us → (∀ t, t ∈ ts → ClAt X.K H t.1 t.2) → PySem.W.EachIs (fun v (b : Addr × Cl) => ∃ as, Reads s.heap v (dT2 b) as) us ts
  | [], _, r, _ => by
    cases r
    exact .nil
  | t :: ts, _, r, h => by
    cases r with
    | cons r1 r2 => exact .cons (Dp.reads I _ _ _ (dp_C (h t List.mem_cons_self)) r1) (each_reads I r2 fun u hu => h u (List.mem_cons_of_mem _ hu))
/-- sorted(calls), fewer than 64 -/
def rSortC (K : PySem.W.Frag) : List V → Hp → VK → Prop := fun vs H Q => ∃ (a : Addr) (ts : List (Addr × Cl)), vs = [V.ref a] ∧ CallsAt K H a ts ∧ ts.length < 64 ∧
  ∀ (us : List (Addr × Cl)) (p : Addr), us.Perm ts → us.Pairwise (fun x y => x.2.c ≤ y.2.c) → H p = none → Q (.ref p) (upd H p (.lst (refs us)))
theorem cr_sortC {X : Cx} (hu : X.A.units + 64 < cLine) : CallR X (.builtin "sorted") (rSortC X.K) := by
  intro pins s σ H vs us Q I r h
  obtain ⟨a, ts, rfl, hs, few, q⟩ := h
  rw [Vals.ref1 r]
  obtain ⟨its, rv, hl, hlen⟩ := I.list hs.at_
  refine PySem.W.sorted_data (vs := its) (bs := ts) (enc := dT2) hl.isList (each_refs rv) (each_reads I rv hs.each) (PySem.W.AllAlike.of fun b b' => alike_C b.2 b'.2) (PySem.W.Sortable.tuples fun b => ⟨_, _, rfl⟩) (by rw [sizeLine_eq]; omega) (fun b _ => ?_) fun out ho eo => ?_
  · show X.A.units + 2 + PyData.depth (dC b.2) < cLine
    rw [dep_C]
    omega
  · have T := PySem.W.sortLe_total (listOrd itemOrd) false fun b : Addr × Cl => PySem.W.keyToks (dT2 b)
    have pw := PySem.W.sort_pairwise T ts
    have pm := List.mergeSort_perm ts (PySem.W.dataLe false dT2)
    have ro := refs_each eo
    obtain ⟨c, hc⟩ := sortedAll_at s.heap its out.toArray
    have hz : (refs (ts.mergeSort (PySem.W.dataLe false dT2))).length ≤ sizeLine := by rw [List.length_map, pm.length_eq, sizeLine_eq]; omega
    exact ⟨.ref _, upd H (s.heap.objs.size + 1) (.lst (refs (ts.mergeSort (PySem.W.dataLe false dT2)))), I.laid (t' := s.toks) (fun b u e => sortedAll_old e) (Nat.le_succ _) ⟨hz, out, c, ro, hc⟩, rfl, q _ _ pm (pw.imp fun h => le_callers h) (I.hok.fresh (Nat.le_succ _))⟩
end Xr
set_option Elab.async false
set_option linter.all false
set_option maxRecDepth 100000
set_option maxHeartbeats 4000000
/-! Rules that the layer lacks, 4: a lambda of one parameter that a built-in calls. -/
namespace Xr
open PySem PySem.Spec PyProof.Rows L2
/-- one parameter a; names of the def around it; globals -/
structure Lam1S (sc scope : Scope) (a : Str) : Prop where
  kind : scope.kind = .function
  plain : scope.isCoroutine = false ∧ scope.isGenerator = false
  par : scope.names.lookup a = some .local
  nocell : ∀ y ∈ scope.names, y.2 ≠ .cell
  own : ∀ y ∈ scope.names, y.2 = .local → y.1 = a
  outer : ∀ y ∈ scope.names, y.2 = .free → (sc.names.lookup y.1 = some .cell ∨ sc.names.lookup y.1 = some .free)
theorem Lam1S.held {X : Cx} {scope : Scope} {a : Str} (L : Lam1S X.env.scope scope a) (ok : X.Ok) : ∀ y ∈ scope.names, y.2 = .free → ∃ c, X.env.cells.lookup y.1 = some c := fun y hy e =>
  ok.has y.1 ((L.outer y hy e).imp id id)
/-- what a closure holds stands in the maker's cells -/
theorem clo_up {cells : List (Str × Addr)} {names : List (Str × NameKind)} (held : ∀ y ∈ names, y.2 = .free → ∃ c, cells.lookup y.1 = some c) {x : Str} {c : Addr} (e : (cloFrom cells names []).lookup x = some c) : cells.lookup x = some c := by
  cases cloFrom_mem (PySem.mem_of_lookup e) with
  | inl z => cases z
  | inr z =>
    obtain ⟨d, hd⟩ := held (x, .free) z.1 rfl
    have q : c = d := z.2.trans (by rw [show cells.lookup x = some d from hd]; rfl)
    rw [q]
    exact hd
theorem clo_down {cells : List (Str × Addr)} {names : List (Str × NameKind)} {x : Str} (h : names.lookup x = some .free) : ∃ c, (cloFrom cells names []).lookup x = some c := L2.mem_lookup (cloFrom_has (cells := cells) (acc := []) (PySem.mem_of_lookup h))
def lam1Cx (X : Cx) (A : Around) (outer : List Env) (s : Shared) (H : Hp) (E : XK) (scope : Scope) (f c' : Addr) (N' : List Str) : Cx := { LamX.lamCx X A outer s H E scope f c' with N := N' }
section
variable {X : Cx} {pins : List (Addr × Obj)} {σ σ' : L2.St} {H : Hp} {s : Shared}
/-- the lambda's context is well made -/
theorem lam1_ok {A : Around} {E : XK} {scope : Scope} {f c' : Addr} {a : Str} {N' : List Str} (ok : X.Ok) (L : Lam1S X.env.scope scope a) (e0 : Env0 X.prog X.w X.K X.mg X.base A X.stack s H) (hd : A.handled = none) : (lam1Cx X A X.stack s H E scope f c' N').Ok where
  mod := e0.mod
  kind := L.kind
  glob := rfl
  blt := rfl
  above := Nat.le_refl _
  inj := fun x y c p q => ok.inj x y c (clo_up (L.held ok) p) (clo_up (L.held ok) q)
  has := fun x h => by
    rcases (show scope.names.lookup x = some .cell ∨ scope.names.lookup x = some .free from h) with h | h
    · exact (L.nocell _ (PySem.mem_of_lookup h) rfl).elim
    · exact clo_down h
  cab := fun x c z _ => nomatch (show false = true from z)
  hd := fun _ => hd
  frames := Around.frames_deeper e0.frames
  stk := .inr ⟨rfl, rfl⟩
  exf := fun b z => nomatch (show b ∈ ([] : List Addr) from z)
  bs := e0.bs
  bsz := e0.bsz
  noex := fun b _ _ z => nomatch (show b ∈ ([] : List Addr) from z)
  exfs := fun b z => nomatch (show b ∈ ([] : List Addr) from z)
  funs := e0.funs
  frf := e0.frf
theorem lam1_start {A : Around} {E : XK} {scope : Scope} {f c' : Addr} {h₁ : Heap} {tk : Nat} {a : Str} {u : Value} {v : V} {N' : List Str} (J : Inv X pins σ H s) (L : Lam1S X.env.scope scope a) (e0 : Env0 X.prog X.w X.K X.mg X.base A X.stack s H) (hd : A.handled = none)
    (hns : h₁.Ns s.heap.objs.size fun y => [(a, u)].reverse.lookup y) (old : ∀ b o, s.heap.get? b = some o → h₁.get? b = some o) (r : RelV v u) (hlen : σ'.length = N'.length)
    (hσ : ∀ (i : Nat) (x : Str) (w : V), N'[i]? = some x → σ'[i]? = some (some w) → (x = a ∧ w = v) ∨ (x ≠ a ∧ ∃ j : Nat, X.N[j]? = some x ∧ σ[j]? = some (some w))) :
    Inv (lam1Cx X A X.stack s H E scope f c' N') [] σ' H { s with heap := h₁, toks := tk } := by
  have up : ∀ {x : Str} {c : Addr}, (cloFrom X.env.cells scope.names []).lookup x = some c → X.env.cells.lookup x = some c := fun e => clo_up (L.held J.ok) e
  have cell1 : ∀ {c : Addr} {o : Option Value}, s.heap.IsCell c o → h₁.IsCell c o := fun z => by
    obtain ⟨ob, h1, h2⟩ := z
    exact ⟨ob, old _ _ h1, h2⟩
  exact {
    ok := lam1_ok J.ok L e0 hd
    os := rfl
    bare := e0.bare
    base := Un.kept old
    loc := by
      refine ⟨_, hns, fun i x w hi hs vis => ?_⟩
      rcases hσ i x w hi hs with ⟨ex, ew⟩ | ⟨ne, j, hj, hs'⟩
      · refine ⟨u, by rw [ew]; exact r, .inl ⟨by rw [ex]; exact L.par, ?_⟩⟩
        rw [ex]
        simp
      · have fr : scope.names.lookup x = some .free := by
          rcases (show Vis scope x from vis) with k | k | k
          · exact (ne (L.own _ (PySem.mem_of_lookup k) rfl)).elim
          · exact (L.nocell _ (PySem.mem_of_lookup k) rfl).elim
          · exact k
        have there := L.outer _ (PySem.mem_of_lookup fr) rfl
        obtain ⟨m, _, hl⟩ := J.loc
        obtain ⟨u', r', q⟩ := hl j x w hj hs' (.inr there)
        obtain ⟨c, hc⟩ := clo_down (cells := X.env.cells) fr
        refine ⟨u', r', .inr ⟨.inr fr, c, hc, ?_⟩⟩
        cases q with
        | inl q =>
          have q1 : X.env.scope.names.lookup x = some .local := q.1
          have there2 : X.env.scope.names.lookup x = some .cell ∨ X.env.scope.names.lookup x = some .free := there
          rw [q1] at there2
          rcases there2 with z | z <;> cases z
        | inr q =>
          obtain ⟨_, d, hd2, hcell⟩ := q
          rw [up hc] at hd2
          cases hd2
          exact cell1 hcell
    cell := fun x c e => by
      obtain ⟨o, z⟩ := J.cell x c (up e)
      exact ⟨o, cell1 z⟩
    free := e0.hok.fresh (Nat.le_refl _)
    freeC := fun x c e => J.freeC x c (up e)
    pin := fun q hq => nomatch (show q ∈ ([] : List (Addr × Obj)) ++ [] from hq)
    hok := e0.hok.kept old
    len := hlen }
/-- the lambda at f called with one value; A: what is around the call -/
theorem lam1_call {A : Around} {scope : Scope} {f c' : Addr} {a : Str} {u pm ctv : Value} {v : V} {N' : List Str} {params : Arguments} {body : Expr} {k : Nat} {tb : TE} {Q : VK} (J : Inv X pins σ H s) (L : Lam1S X.env.scope scope a)
    (hf : s.heap.get? f = some (PySem.W.kla_obj "<lambda>" (X.env.qual ++ "<lambda>") params body scope (cloFrom X.env.cells scope.names []) pm c' ctv)) (hco : H c' = some (LamX.CodeO c' (X.env.qual ++ "<lambda>")))
    (hbind : ∀ (q : Str) (cl : List (Str × Addr)) (pm cv ctv u : Value), bindArgs (PySem.W.kla_fn "<lambda>" q params body scope cl pm cv ctv) ⟨[u], []⟩ = pure [(a, u)])
    (hr : Room (k + 1) A) (e0 : Env0 X.prog X.w X.K X.mg X.base A X.stack s H)
    (hbody : ∀ (A : Around) (s : Shared) (H : Hp), Room k (A.deeper (LamX.lamEnv X scope s.heap.objs.size f c')) → PE (lam1Cx X A X.stack s H C8.E0 scope f c' N') body tb)
    (r : RelV v u) (hlen : σ'.length = N'.length)
    (hσ : ∀ (i : Nat) (x : Str) (w : V), N'[i]? = some x → σ'[i]? = some (some w) → (x = a ∧ w = v) ∨ (x ≠ a ∧ ∃ j : Nat, X.N[j]? = some x ∧ σ[j]? = some (some w)))
    (ht : tb σ' H Q) : wpAny (model X.prog X.w) A (call (.ref f) [u]) (CE X.stack X.prog X.w H s Q) (fun _ _ => False) s := by
  obtain ⟨⟨oc, vs, t, ho, hdata, hname⟩, _, _⟩ := J.hok c' _ hco
  have body1 : ∀ h₁ : Heap, h₁.Ns s.heap.objs.size (fun y => [(a, u)].reverse.lookup y) → Heap.SameBut s.heap.objs.size (s.heap.push { cls := .type "frame", data := .dict #[] }) h₁ →
      codeAny (model X.prog X.w) A (.expr body (LamX.lamEnv X scope s.heap.objs.size f c')) (CR (L2.CX X.prog X.w) X.stack X.prog X.w H s Q C8.E0) { s with heap := h₁, toks := s.toks + [(a, u)].length } := fun h₁ hns hsb => by
    have old : ∀ b o, s.heap.get? b = some o → h₁.get? b = some o := fun b o e => hsb.extBut b o (fun z => Nat.lt_irrefl b (by have := Heap.lt_size e; rw [← z] at this; exact this)) (Heap.get?_push_of_some _ e)
    have J1 : Inv (lam1Cx X A X.stack s H C8.E0 scope f c' N') [] σ' H { s with heap := h₁, toks := s.toks + [(a, u)].length } := lam1_start J L e0 hr.hd hns old r hlen hσ
    refine PySem.W.kla_codeExpr (wpAny_mono ((hbody A s H (hr.deeper _)).run [] _ _ H Q J1 ht) (fun y s' hy => ?_) fun _ _ z => z)
    obtain ⟨y1, H1, J2, r2, q2⟩ := hy
    exact ⟨y1, H1, J2.os, J2.bare, J2.base, J2.hok, r2, q2⟩
  have whole : codeAny (model X.prog X.w) A (.call (.ref f) ⟨[u], []⟩) (CR (L2.CX X.prog X.w) X.stack X.prog X.w H s Q C8.E0) s := by
    refine PySem.W.kla_callFunE hr.depth hf rfl L.plain.1 L.plain.2 rfl ⟨c', oc, vs, t, rfl, ho, hdata, hname⟩ ?_
    rw [hbind]
    exact wpAny_pure (wpAny_newFunctionEnv (fun y hy => L.nocell y hy) (fun y hy => by rw [List.mem_singleton.mp hy]; exact L.par) (fun h₁ hns hsb => ⟨J.nolimit.fresh _ hsb, body1 h₁ hns hsb⟩) L.kind)
  refine wpAny_call (codeAny_mono whole fun res s' hq => ?_)
  match res, hq with
  | .error e, hq =>
    obtain ⟨_, _, _, _, _, _, _, _, _, _, _, _, z⟩ := hq
    exact z
  | .ok (.ret _), hq => exact hq
  | .ok .next, hq => exact hq.elim
  | .ok .brk, hq => exact hq.elim
  | .ok .cont, hq => exact hq.elim
end
end Xr
set_option Elab.async false
set_option linter.all false
set_option maxRecDepth 100000
set_option maxHeartbeats 4000000
/-! Rules that the layer lacks, 5: min(a list of whole numbers, key=a lambda that gives pairs). -/
namespace Xr
open PySem PySem.Spec PyProof.Rows L2
abbrev lexB (x y : Nat → Nat) : Nat → Nat → Bool := fun i j => decide (((x i : Nat) : Int) < ((x j : Nat) : Int) ∨ (((x i : Nat) : Int) = ((x j : Nat) : Int) ∧ ((y i : Nat) : Int) < ((y j : Nat) : Int)))
theorem argBest_lex (x y : Nat → Nat) : ∀ k, argBest (lexB x y) k ≤ k ∧ ∀ j, j ≤ k → x (argBest (lexB x y) k) ≤ x j
  | 0 => ⟨Nat.le_refl _, fun j hj => by
    have : j = 0 := by omega
    rw [this]
    exact Nat.le_refl _⟩
  | k + 1 => by
    obtain ⟨h1, h2⟩ := argBest_lex x y k
    have e : argBest (lexB x y) (k + 1) = if lexB x y (k + 1) (argBest (lexB x y) k) then k + 1 else argBest (lexB x y) k := rfl
    by_cases hc : lexB x y (k + 1) (argBest (lexB x y) k) = true
    · rw [e, if_pos hc]
      have hc' := of_decide_eq_true hc
      refine ⟨Nat.le_refl _, fun j hj => ?_⟩
      rcases Nat.lt_or_ge j (k + 1) with lt | ge
      · have := h2 j (by omega)
        omega
      · have : j = k + 1 := by omega
        rw [this]
        exact Nat.le_refl _
    · rw [e, if_neg hc]
      have hc' : ¬ _ := fun h => hc (decide_eq_true h)
      refine ⟨by omega, fun j hj => ?_⟩
      rcases Nat.lt_or_ge j (k + 1) with lt | ge
      · exact h2 j (by omega)
      · have : j = k + 1 := by omega
        rw [this]
        omega
theorem rel_int {x : V} {i : Int} {t : Tok} (h : RelV x (.int i t)) : x = .int i := by
  cases x with
  | int j =>
    obtain ⟨t', e⟩ := h
    cases e
    rfl
  | str _ => obtain ⟨_, e⟩ := h; cases e
  | byt _ => obtain ⟨_, e⟩ := h; cases e
  | flt _ => obtain ⟨_, e⟩ := h; cases e
  | non => cases h
  | bl _ => cases h
  | ref _ => cases h
  | ty _ => cases h
/-- the pair of the whole numbers x, y at a -/
def PairAt (h : Heap) (a : Addr) (x y : Nat) : Prop := ∃ t1 t2, IsTup h a #[.int (x : Int) t1, .int (y : Int) t2]
theorem PairAt.of_tup {P : Program} {w : World} {H : Hp} {h : Heap} {a : Addr} {x y : Nat} (o : ObjOk P w H h a (.tup [I x, I y])) : PairAt h a x y := by
  obtain ⟨_, its, r, p⟩ := o
  cases r with
  | cons r1 r2 =>
    cases r2 with
    | cons r2 r3 =>
      cases r3
      obtain ⟨t1, rfl⟩ := r1
      obtain ⟨t2, rfl⟩ := r2
      exact ⟨t1, t2, p⟩
theorem PairAt.to_tup {P : Program} {w : World} {H : Hp} {h : Heap} {a : Addr} {x y : Nat} {xs : List V} (p : PairAt h a x y) (o : ObjOk P w H h a (.tup xs)) : xs = [I x, I y] := by
  obtain ⟨_, its, r, ob, h1, h2, n, h3⟩ := o
  obtain ⟨t1, t2, ob', g1, g2, n', g3⟩ := p
  rw [h1] at g1
  cases g1
  rw [h3] at g3
  injection g3 with g3
  have g4 : its = [.int (x : Int) t1, .int (y : Int) t2] := by
    have := congrArg Array.toList g3
    simpa using this
  subst g4
  cases r with
  | cons r1 r2 =>
    cases r2 with
    | cons r2 r3 =>
      cases r3
      rw [rel_int r1, rel_int r2]
theorem PairAt.reads {h : Heap} {a : Addr} {x y : Nat} (p : PairAt h a x y) : ∃ as, Reads h (.ref a) (.tuple [.int (x : Int), .int (y : Int)]) as := by
  obtain ⟨t1, t2, ob, g1, g2, n, g3⟩ := p
  exact ⟨_, .tuple g1 g2 g3 (.cons (.int _ _) (.cons (.int _ _) .nil))⟩
theorem PairAt.at_ {h h' : Heap} {a : Addr} {x y : Nat} (p : PairAt h a x y) (k : ∀ o, h.get? a = some o → h'.get? a = some o) : PairAt h' a x y := by
  obtain ⟨t1, t2, ob, g1, g2, n, g3⟩ := p
  exact ⟨t1, t2, ob, k _ g1, g2, n, g3⟩
/-- a list's walk, its items told up to their marks -/
theorem walks_rel {P : Program} {w : World} {A : Around} (hh : A.handled = none) (it l : Addr) (ne : l ≠ it) (xs : List V) :
    WalksS P w A it [it, l] [it] (fun a b => b = a) xs.length (fun i v => ∃ x, xs[i]? = some x ∧ RelV x v) (fun i s => ∃ its : List Value, Vals xs its ∧ s.heap.IsListIter it l i ∧ s.heap.IsList l its.toArray) where
  sub := fun b hb => by rw [List.mem_singleton.mp hb]; exact List.mem_cons_self
  grefl := fun _ => rfl
  gtrans := fun _ _ _ h1 h2 => h2.trans h1
  frame := fun i s h' tk st ht hk => by
    obtain ⟨its, rv, st⟩ := st
    exact ⟨its, rv, (Walks.list (prog := P) (w := w) hh it l ne its.toArray).toS.frame i s h' tk st ht hk⟩
  item := fun i s Q E hi st hQ => by
    obtain ⟨its, rv, st⟩ := st
    have ez : its.toArray.size = xs.length := by rw [List.size_toArray, ← rv.length]
    refine (Walks.list (prog := P) (w := w) hh it l ne its.toArray).toS.item i s Q E (by omega) st fun v s' hP st' hm => ?_
    obtain ⟨u, hu, r⟩ := rv.get (List.getElem?_eq_getElem hi)
    have hP' : its[i]? = some v := by simpa using hP
    rw [hu] at hP'
    cases hP'
    exact hQ v s' ⟨_, List.getElem?_eq_getElem hi, r⟩ ⟨its, rv, st'⟩ hm
  done := fun s Q E st hQ => by
    obtain ⟨its, rv, st⟩ := st
    have ez : its.toArray.size = xs.length := by rw [List.size_toArray, ← rv.length]
    exact (Walks.list (prog := P) (w := w) hh it l ne its.toArray).toS.done s Q E (by rw [ez]; exact st) hQ
  self := fun i s Q E st hQ => by
    obtain ⟨its, rv, st⟩ := st
    exact (Walks.list (prog := P) (w := w) hh it l ne its.toArray).toS.self i s Q E st hQ
/-- what stays while min turns: the pairs alone are new -/
structure Turning (X : Cx) (pins : List (Addr × Obj)) (σ : L2.St) (H2 : Hp) (S it f : Addr) (fo : Obj) (H : Hp) (s : Shared) : Prop where
  inv : Inv X pins σ H s
  same : Same H2 H
  news : ∀ a u, H a = some u → H2 a = some u ∨ ∃ xs, u = .tup xs
  noS : H S = none
  noI : H it = none
  noF : H f = none
  fat : s.heap.get? f = some fo
/-- the pair that the i-th item gave -/
def Gave (X : Cx) (H2 : Hp) (S it : Addr) (x y : Nat → Nat) (i : Nat) (k : Value) (s : Shared) : Prop := ∃ a, k = .ref a ∧ a ≠ S ∧ a ≠ it ∧ H2 a = none ∧ a ∉ frs X.stack ∧ PairAt s.heap a (x i) (y i)
section
variable {X : Cx} {pins : List (Addr × Obj)} {σ : L2.St} {H2 H : Hp} {s s' : Shared} {S it f : Addr} {fo : Obj}
theorem Turning.moved (T : Turning X pins σ H2 S it f fo H s) (fS : FpOk X pins H S) (fI : FpOk X pins H it) (nS : f ≠ S) (nI : f ≠ it) {G : Array GenState → Array GenState → Prop} (hG : ∀ a b, G a b → b = a) (m : Moved [S, it] G s s') : Turning X pins σ H2 S it f fo H s' := by
  obtain ⟨h', g', d', t', o'⟩ := s'
  have eg : g' = s.gens := hG _ _ m.gens
  have ed : d' = s.drawn := m.drawn
  have eo : o' = s.os := m.os
  subst eg ed eo
  refine ⟨T.inv.turnedL (t' := t') (ch := [S, it]) (fun b o hb e => m.heap b o hb e) fun b hb => ?_, T.same, T.news, T.noS, T.noI, T.noF, m.heap f fo (by simp [nS, nI]) T.fat⟩
  rcases List.mem_cons.mp hb with rfl | hb
  · exact fS
  · rw [List.mem_singleton.mp hb]
    exact fI
theorem FpOk.of {b : Addr} {H1 H2 : Hp} (p : FpOk X pins H1 b) (n : H2 b = none) : FpOk X pins H2 b := ⟨n, p.2⟩
end
end Xr
set_option Elab.async false
set_option linter.all false
set_option maxRecDepth 100000
set_option maxHeartbeats 4000000
/-! Rules that the layer lacks, 6: min(xs, key=lambda a: (n, a)), the rule. -/
namespace Xr
open PySem PySem.Spec PyProof.Rows L2
section
variable {X : Cx} {pins : List (Addr × Obj)} {σ : L2.St}
theorem keyRun {A : Around} {H2 : Hp} {S it f l c' : Addr} {scope : Scope} {a b : Str} {cap : Nat} {d : V} {pm ctv : Value} {params : Arguments} {body : Expr} {k : Nat} {tb : TE} {ns : List Nat} {len : Nat → Nat}
    (L : Lam1S X.env.scope scope a) (hco : H2 c' = some (LamX.CodeO c' (X.env.qual ++ "<lambda>")))
    (hbind : ∀ (q : Str) (cl : List (Str × Addr)) (pm cv ctv u : Value), bindArgs (PySem.W.kla_fn "<lambda>" q params body scope cl pm cv ctv) ⟨[u], []⟩ = pure [(a, u)])
    (hr : Room (k + 1) A) (hAf : A.frames = X.A.frames) (hbody : ∀ (A : Around) (s : Shared) (H : Hp), Room k (A.deeper (LamX.lamEnv X scope s.heap.objs.size f c')) → PE (lam1Cx X A X.stack s H C8.E0 scope f c' [a, b]) body tb)
    (hab : b ≠ a) (hN : X.N[cap]? = some b) (hs : σ[cap]? = some (some d)) (hl : SqL X.K H2 l (nI ns))
    (fS : FpOk X pins H2 S) (fI : FpOk X pins H2 it) (nS : f ≠ S) (nI' : f ≠ it) (nSI : S ≠ it) (lS : l ≠ S) (lI : l ≠ it) (nfr : f ∉ frs X.stack) (S0 : S ∉ frs X.stack) (I0 : it ∉ frs X.stack)
    (ht : ∀ (H3 : Hp) (n : Nat), Same H2 H3 → n ∈ ns → tb [some (I n), some d] H3 fun v H4 => ∃ p, v = .ref p ∧ H3 p = none ∧ H4 = upd H3 p (.tup [I (len n), I n])) :
    KeyRun X.prog X.w A (.ref f) .Lt S [it] (fun a b => b = a) (nI ns).length (fun i v => ∃ x, (nI ns)[i]? = some x ∧ RelV x v) (fun i s => ∃ its : List Value, Vals (nI ns) its ∧ s.heap.IsListIter it l i ∧ s.heap.IsList l its.toArray)
      (fun s => ∃ H, Turning X pins σ H2 S it f (PySem.W.kla_obj "<lambda>" (X.env.qual ++ "<lambda>") params body scope (cloFrom X.env.cells scope.names []) pm c' ctv) H s)
      (Gave X H2 S it (fun i => len (ns.getD i 0)) fun i => ns.getD i 0) (lexB (fun i => len (ns.getD i 0)) fun i => ns.getD i 0) where
  keep := fun s s' ⟨H, T⟩ m => ⟨H, T.moved (FpOk.of fS T.noS) (FpOk.of fI T.noI) nS nI' (fun _ _ e => e) m⟩
  keepV := fun i k s s' ⟨p, e1, e2, e3, e4, e5, e6⟩ m => ⟨p, e1, e2, e3, e4, e5, e6.at_ fun o h => m.heap p o (by simp [e2, e3]) h⟩
  turn := by
    intro i v s o Q E hi ⟨x, hx, rx⟩ ⟨H, T⟩ ⟨its, rv, st1, st2⟩ hS q
    obtain ⟨n, hn, rfl⟩ := nI_at hx
    have hnm : n ∈ ns := List.mem_of_getElem? hn
    have en : ns.getD i 0 = n := by rw [List.getD_eq_getElem?_getD, hn]; rfl
    have e0 : Env0 X.prog X.w X.K X.mg X.base A X.stack s H := by
      have e1 := T.inv.env0
      exact ⟨hAf.trans e1.frames, e1.mod, e1.bs, e1.bsz, e1.funs, e1.frf, e1.hok, e1.bare⟩
    refine wpAny_mono (lam1_call (N' := [a, b]) (σ' := [some (I n), some d]) (v := I n) T.inv L T.fat (T.same _ _ hco) hbind hr e0 hbody rx rfl (fun j y w h1 h2 => ?_) (ht H n T.same hnm)) (fun u s' hce => ?_) fun _ _ z => z.elim
    · rcases j with _ | _ | j
      · cases h1
        cases h2
        exact .inl ⟨rfl, rfl⟩
      · cases h1
        cases h2
        exact .inr ⟨hab, cap, hN, hs⟩
      · simp at h1
    · obtain ⟨w', H', e1, e2, un, hok, rw', p, rfl, np, rfl⟩ := id hce
      cases rw'
      have J : Inv X pins σ (upd H p (.tup [I (len n), I n])) s' := by
        obtain ⟨v2, H2', J, r2, p2, e3, np2, e4⟩ := T.inv.after hce
        subst e3
        cases r2
        rw [← e4]
        exact J
      have pS : p ≠ S := fun z => by
        have := un.free S o hS T.noS (by simp)
        rw [← z, upd_same] at this
        cases this
      obtain ⟨oI, hoI, hoI2⟩ := id st1
      have pI : p ≠ it := fun z => by
        have := un.free it oI hoI T.noI (by simp)
        rw [← z, upd_same] at this
        cases this
      have pf : p ≠ f := fun z => by
        have := un.free f _ T.fat T.noF (by simp)
        rw [← z, upd_same] at this
        cases this
      have sm : Same H (upd H p (.tup [I (len n), I n])) := same_upd np
      refine q (.ref p) s' ⟨_, J, T.same.trans sm, fun c u e => ?_, ?_, ?_, ?_, ?_⟩ ?_ ?_ ⟨p, rfl, pS, pI, T.same.free np, fun z => ?_, ?_⟩ fun j k' hg => ?_
      · by_cases hc : c = p
        · rw [hc, upd_same] at e
          exact .inr ⟨_, (Option.some.inj e).symm⟩
        · rw [upd_ne hc] at e
          exact T.news c u e
      · rw [upd_ne pS.symm]; exact T.noS
      · rw [upd_ne pI.symm]; exact T.noI
      · rw [upd_ne pf.symm]; exact T.noF
      · exact un.keep f _ T.fat T.noF nfr (by simp)
      · obtain ⟨its', rv', hl', _⟩ := J.list (Same.seq (T.same.trans sm) hl)
        exact ⟨its', rv', ⟨oI, un.keep it oI hoI T.noI I0 (by simp), hoI2⟩, hl'.isList⟩
      · exact un.keep S o hS T.noS S0 (by simp)
      · have := J.stkFree p z
        rw [upd_same] at this
        cases this
      · simp only [en]
        exact PairAt.of_tup (J.hok p _ upd_same)
      · obtain ⟨c, g1, g2, g3, g4, g5, g6⟩ := hg
        refine ⟨c, g1, g2, g3, g4, g5, ?_⟩
        cases hc : H c with
        | none =>
          exact g6.at_ fun o2 h2 => un.keep c o2 h2 hc g5 (by simp)
        | some u =>
          rcases T.news c u hc with h | ⟨xs, rfl⟩
          · rw [g4] at h
            cases h
          · have := g6.to_tup (T.inv.hok c _ hc)
            subst this
            exact PairAt.of_tup (hok c _ (un.tups c _ hc))
  cmp := by
    intro i j ki kj s Q E ⟨H, T⟩ ⟨p, e1, _, _, _, _, g1⟩ ⟨p', e2, _, _, _, _, g2⟩ hq
    subst e1 e2
    obtain ⟨as, r1⟩ := g1.reads
    obtain ⟨bs, r2⟩ := g2.reads
    refine PySem.W.lt_data r1 r2 (by simp only [PySem.W.alike, PySem.W.alikeAll, Bool.and_self]) (fun z => by cases z) ?_ ?_
    · have := hr.units
      have e : ∀ m n : Int, PyData.depth (.tuple [.int m, .int n]) = 1 := fun m n => by simp [PyData.depth, PyData.depthAll]
      rw [e, e]
      omega
    · rw [PySem.W.dataLt_ii]
      exact hq
end
end Xr
set_option Elab.async false
set_option linter.all false
set_option maxRecDepth 100000
set_option maxHeartbeats 4000000
/-! Rules that the layer lacks, 7: min(xs, key=lambda a: (n, a)) as an expression. -/
namespace Xr
open PySem PySem.Spec PyProof.Rows L2
def tMinK (K : PySem.W.Frag) (T : List (Addr × Str)) (cap : Nat) (te tb : TE) : TE := fun σ H Q => te σ H fun x H1 => ∃ (l : Addr) (ns : List Nat) (len : Nat → Nat) (d : V), x = .ref l ∧ SqL K H1 l (nI ns) ∧ ns ≠ [] ∧ LamX.Tabs T H1 ∧ σ[cap]? = some (some d) ∧
  ∀ H2, LamX.ExtN H1 H2 → LamX.Tabs T H2 →
    (∀ (H3 : Hp) (n : Nat), Same H2 H3 → n ∈ ns → tb [some (I n), some d] H3 fun v H4 => ∃ p, v = .ref p ∧ H3 p = none ∧ H4 = upd H3 p (.tup [I (len n), I n])) ∧
    ∀ (H3 : Hp) (m : Nat), Same H2 H3 → m ∈ ns → (∀ n, n ∈ ns → len m ≤ len n) → Q (I m) H3
theorem ExtN.seq {K : PySem.W.Frag} {H H' : Hp} {a : Addr} {xs : List V} (e : LamX.ExtN H H') (h : SqL K H a xs) : SqL K H' a xs := by
  rcases h with (h | ⟨o, h⟩) | h
  · exact .inl (.inl (e _ _ h fun _ z => by cases z))
  · exact .inl (.inr ⟨o, e _ _ h fun _ z => by cases z⟩)
  · exact .inr h
section
variable {X : Cx}
theorem pe_minK {T : List (Addr × Str)} {c P : Addr} {scope : Scope} {a b : Str} {cap : Nat} {params : Arguments} {body e : Expr} {k : Nat} {te tb : TE} {p lpos kp pos : Pos}
    (TB : LamX.TabB X.base X.mg c P) (hcode : X.env.code = .ref c) (hmT : (P, X.env.qual ++ "<lambda>") ∈ T) (hu : ∀ p ∈ T, p.1 = P → p.2 = X.env.qual ++ "<lambda>") (hdef : defaultsOf params X.env = ([], []))
    (L : Lam1S X.env.scope scope a)
    (hbind : ∀ (q : Str) (cl : List (Str × Addr)) (pm cv ctv u : Value), bindArgs (PySem.W.kla_fn "<lambda>" q params body scope cl pm cv ctv) ⟨[u], []⟩ = pure [(a, u)])
    (hr : Room (k + 2) X.A) (hg : Gl X "min") (hm : X.mg "min" = none)
    (hbody : ∀ (f c' : Addr) (A : Around) (s : Shared) (H : Hp), Room k (A.deeper (LamX.lamEnv X scope s.heap.objs.size f c')) → PE (lam1Cx X A X.stack s H C8.E0 scope f c' [a, b]) body tb)
    (hab : b ≠ a) (hN : X.N[cap]? = some b) (he : PE X e te)
    (hst : backTo pos (starEach [e] X.env) = (false, eval e X.env) :: backTo pos (starEach [] X.env) := by rfl) (hpl : (backTo pos (starEach [e] X.env)).any (·.1) = false := by rfl)
    (hall : (backToKw pos (keywordEach [⟨some "key", .Lambda params body scope lpos, kp⟩] X.env)).all (·.1.isSome) = true := by rfl) (hnone : (backToKw pos (keywordEach [⟨some "key", .Lambda params body scope lpos, kp⟩] X.env)).any (·.1.isNone) = false := by rfl)
    (hks : (backToKw pos (keywordEach [⟨some "key", .Lambda params body scope lpos, kp⟩] X.env)).filterMap (·.1) = [Str.ofString "key"] := by rfl) :
    PE X (.Call (.Name "min" p) [e] [⟨some "key", .Lambda params body scope lpos, kp⟩] pos) (tMinK X.K T cap te tb) := by
  refine ⟨fun pins s σ H Q J0 h => ?_⟩
  refine wpAny_Call_Name_kw (ld_blt (u := .builtin "min") J0 hg hm (by rfl) ?_)
  refine PyProof.Rows.callWith_kw ?_ hst hpl hall hnone
  rw [hst]
  refine Calls.spliced_cons (thn (he.run pins s σ H _ J0 h) fun u s1 ⟨x, H1, I1, r1, q1⟩ => ?_)
  obtain ⟨l, ns, len, d, rfl, hl, hne, hT, hs, q⟩ := q1
  cases r1
  refine Calls.spliced_nil ?_
  refine PyProof.Rows.kws_cons (LamX.lam_make2 I1 TB hcode hmT hu hT hdef (L.held I1.ok) fun f c' pm ctv H2 s2 I2 eN T2 hf hfn hfr hco => ?_)
  refine wpAny_evalAll_nil ?_
  rw [hks]
  show wpAny _ _ (call (.builtin "min") [.ref l] [(Str.ofString "key", .ref f)]) _ _ _
  obtain ⟨q2, q3⟩ := q H2 eN T2
  have hl2 : SqL X.K H2 l (nI ns) := ExtN.seq eN hl
  obtain ⟨its, rv, hpl, _⟩ := I2.list hl2
  obtain ⟨ol, hol, _⟩ := id hpl.isList
  have ll : l < s2.heap.objs.size := Heap.lt_size hol
  have lf : f < s2.heap.objs.size := Heap.lt_size hf
  refine call_min_walkK (wpAny_pyIter_list hpl.isList ?_)
  have I3 : Inv X pins σ H2 { s2 with heap := s2.heap.push { cls := .type "list_iterator", data := .fields #[.ref l, .int 0 0] } } := I2.kept (t' := s2.toks) fun b u e => Heap.get?_push_of_some _ e
  have zS : (s2.heap.push { cls := .type "list_iterator", data := .fields #[.ref l, .int 0 0] }).objs.size = s2.heap.objs.size + 1 := Heap.size_push ..
  have nofr : ∀ b, s2.heap.objs.size ≤ b → b ∉ frs X.stack := fun b hb z => by
    rcases List.mem_cons.mp (I2.stkSub _ z) with e | e
    · have h1 := I2.lt
      rw [← e] at h1
      exact Nat.lt_irrefl _ (Nat.lt_of_lt_of_le h1 hb)
    · exact I2.nofs hb e
  have g1 : s2.heap.objs.size ≤ (s2.heap.push { cls := .type "list_iterator", data := .fields #[.ref l, .int 0 0] }).objs.size := by rw [zS]; exact Nat.le_succ _
  have nSi : (s2.heap.push { cls := .type "list_iterator", data := .fields #[.ref l, .int 0 0] }).objs.size ≠ s2.heap.objs.size := by rw [zS]; exact Nat.succ_ne_self _
  have nn : 0 < (nI ns).length := by
    rw [nI_len]
    exact List.length_pos_iff.mpr hne
  refine ⟨s2.heap.objs.size, _, _, _, _, _, _, _, _, _, rfl, walks_rel (by rw [Around.in1_handled]; exact hr.hd) _ l (Nat.ne_of_lt ll) (nI ns), ⟨its, rv, ⟨_, Heap.get?_push_size _ rfl, rfl, rfl⟩, hpl.isList.push _⟩, fun b hb => ?_, nn,
    keyRun (pm := pm) (ctv := ctv) (params := params) (body := body) (tb := tb) L hco hbind hr.in1 rfl (hbody f c') hab hN hs hl2
      (I2.fpOk g1 (I2.hok.fresh g1)) (I2.fpOk (Nat.le_refl _) (I2.hok.fresh (Nat.le_refl _))) (Nat.ne_of_lt (Nat.lt_of_lt_of_le lf g1)) (Nat.ne_of_lt lf) nSi (Nat.ne_of_lt (Nat.lt_of_lt_of_le ll g1)) (Nat.ne_of_lt ll) hfr (nofr _ g1) (nofr _ (Nat.le_refl _)) q2,
    ⟨H2, I3, Same.refl _, fun _ _ e => .inl e, I2.hok.fresh g1, I2.hok.fresh (Nat.le_refl _), hfn, Heap.get?_push_of_some _ hf⟩, fun v s' ⟨x, hx, rx⟩ ⟨H', J⟩ => ?_⟩
  · rw [zS]
    rcases List.mem_cons.mp hb with rfl | hb
    · exact Nat.lt_succ_self _
    · rw [List.mem_singleton.mp hb]
      exact Nat.lt_succ_of_lt ll
  · obtain ⟨m, hm', rfl⟩ := nI_at hx
    refine ⟨I m, H', J.inv, rx, q3 H' m J.same (List.mem_of_getElem? hm') fun n hn => ?_⟩
    obtain ⟨j, hj, ej⟩ := List.getElem_of_mem hn
    have hb := (argBest_lex (fun i => len (ns.getD i 0)) (fun i => ns.getD i 0) ((nI ns).length - 1)).2 j (by rw [nI_len]; omega)
    have e1 : ns.getD j 0 = n := by rw [List.getD_eq_getElem?_getD, List.getElem?_eq_getElem hj, ej]; rfl
    have e2 : ns.getD (argBest (lexB (fun i => len (ns.getD i 0)) fun i => ns.getD i 0) ((nI ns).length - 1)) 0 = m := by rw [List.getD_eq_getElem?_getD, hm']; rfl
    rw [e1, e2] at hb
    exact hb
end
end Xr
set_option Elab.async false
set_option linter.all false
set_option maxRecDepth 100000
set_option maxHeartbeats 4000000
/-! The walks, 10: least_ended. -/
namespace Xr
open PySem PySem.Spec PyProof.Rows L2
/-- the rule for a def whose code object is known -/
theorem FnP.okC {P : Program} {w : World} {K : PySem.W.Frag} {mg : Str → Option Value} {base : Heap} {x : Str} {st : Stmt} {dvs : List V} {f c : Addr} {fd : FuncData} {CX : CXT} {N ps : List Str} {k : Nat} {sp : Sp} (F : FnP K x st dvs f fd) (hc : fd.code = .ref c) (S : FnScope N ps (defScope st))
    (len : ∀ vs H Q E, sp vs H Q E → vs.length = ps.length)
    (hbody : ∀ (A : Around) (outer : List Env) (s : Shared) (H : Hp) (vs : List V) (Q : VK) (E : XK), Room k (A.deeper (envOfC x (defScope st) s.heap.objs.size f (.ref c))) → sp vs H Q E →
      ∃ t, PSs (cxOf CX P w K mg base N x (defScope st) f (.ref c) A outer s H E) (defBody st) t ∧ t { nx := fun _ H' => Q .non H', rt := Q } (L2.start N vs) H) : FnOk P w K mg base CX (k + 1) f fd ps sp := by
  obtain ⟨oc, od, dV, kV, doc, pm, an, cdv, ct, osl, rfl, lk, hcd, _, _⟩ := F.ex
  have e : cdv = .ref c := hc
  subst e
  exact fn_of lk hcd S len fun A outer s H vs Q E hr hsp => hbody A outer s H vs Q E hr hsp
abbrev lamQ : Str := (("least_ended" : Str) ++ (".<locals>." : Str)) ++ ("<lambda>" : Str)
theorem rdy_step (shut i : Nat) : nI ((List.range (i + 1)).filter fun k => !shut.testBit k) = nI ((List.range i).filter fun k => !shut.testBit k) ++ if (!shut.testBit i) = true then [I i] else [] := by
  rw [List.range_succ, List.filter_append]
  unfold nI
  rw [List.map_append]
  congr 1
  rw [List.filter_cons]
  split <;> rfl
/-- the lambda's names -/
def lamScope : Scope := match defBody sLeast with
  | [_, _, _, .Assign _ (.Call _ _ [⟨_, .Lambda _ _ sc _, _⟩] _) _, _] => sc
  | _ => { kind := .function, names := [], isGenerator := false, isCoroutine := false }
theorem lam_scope : Lam1S (defScope sLeast) lamScope "k" := ⟨by decide +kernel, by decide +kernel, by decide +kernel, by decide +kernel, by decide +kernel, by decide +kernel⟩
section
variable {P : Program} {w : World} {K : PySem.W.Frag} {mg : Str → Option Value} {base : Heap} {f : Addr} {fd : FuncData}
def spLeast (K : PySem.W.Frag) (tb : Addr) : Sp := fun vs H Q _ => ∃ (a b e : Addr) (h : Hall) (ts : List (Addr × Cl)) (c : Nat) (es : List Nat) (shut : Nat), vs = [.ref a, .ref b, I c, .ref e, I shut] ∧ HallOk h ∧ SqT K H a (hallV h) ∧ CallsAt K H b ts ∧ (∀ t, t ∈ ts → ClOk h t.2) ∧
  SqA K H e (nI es) ∧ EndsIn h es ∧ es.length < 64 ∧ ts.length ≤ 1000 ∧ LamX.Tabs [(tb, lamQ)] H ∧ (ready h shut = [] → ∀ H', Same H H' → Q .non H') ∧
  (ready h shut ≠ [] → ∀ H' p m, LamX.ExtN H H' → LamX.Tabs [(tb, lamQ)] H' → Best h (cls ts) c es shut m → H p = none → H' p = some (.lst (nI (kept h (cls ts) c es m))) → Q (.ref p) H')
theorem scLeast : FnScope ["hall", "calls", "caller", "ends", "shut", "ready", "best", "held", "k"] ["hall", "calls", "caller", "ends", "shut"] (defScope sLeast) := ⟨rfl, rfl, rfl, by decide +kernel, rfl, by decide +kernel, by decide +kernel⟩
theorem ok_least {cc tb : Addr} (B : Bi mg) (F : FnP K "least_ended" sLeast [.int 0] f fd) (hcode : fd.code = .ref cc) (TB : LamX.TabB base mg cc tb) (hQ : Has P w K mg base "is_open" 1 ["shut", "k"] spOpen)
    (hH : Has P w K mg base "holders" 2 ["hall", "calls", "caller", "ends"] (spHold K)) :
    FnOk P w K mg base CX0 3 f fd ["hall", "calls", "caller", "ends", "shut"] (spLeast K tb) := by
  refine FnP.okC F hcode scLeast (fun vs H Q E h => ?_) (fun A outer s H vs Q E hr h => ?_)
  · obtain ⟨a, b, e, h, ts, c, es, shut, rfl, _⟩ := h
    rfl
  · obtain ⟨a, b, e, h, ts, c, es, shut, rfl, hh, ha, hb, hok, he, hin, few, fewc, hT, qn, qb⟩ := h
    refine ⟨_, PSs.nox (pss_cons (ps_setLc (i := 5) (own := [("k", 8)]) (g := gName 8) rfl scLeast.nd rfl rfl (sw_true rfl rfl rfl (by decide +kernel)) (pi_range1 (by rfl) B.range (pa_cons (pe_ix ix_tup (pv 0) pe_int (fun _ _ => rfl)) pa_nil))
        (blkOk_by (own := [("k", 8)]) (N := ["hall", "calls", "caller", "ends", "shut", "ready", "best", "held", "k"]) (sc := defScope sLeast) (by decide +kernel))
        (fun _ _ _ _ _ => pg_name (i := 8) scLeast.nd rfl (Or.inl rfl)) (fun _ _ _ _ _ => pts_one (pt_val (pe_has hQ hr (by decide) (pa_cons (pv 4) (pa_cons (pv 8) pa_nil))))) (fun _ _ _ _ _ => pv 8))
      (pss_cons (ps_if (pt_cmpR (op_eqD hr.units) (pv 5) (pe_lst pa_nil) (nomark _)) (pss_one (ps_ret pe_non)) pss_nil)
      (pss_cons (ps_set (i := 7) scLeast.nd rfl (.inr rfl) (pe_has hH hr (by decide) (pa_cons (pv 0) (pa_cons (pv 1) (pa_cons (pv 2) (pa_cons (pv 3) pa_nil))))))
      (pss_cons (ps_set (i := 6) scLeast.nd rfl (.inl rfl) (pe_minK (T := [(tb, lamQ)]) (cap := 7) (k := 0) (a := "k") (b := "held") TB rfl (List.mem_singleton.mpr rfl) (fun p hp _ => by rw [List.mem_singleton.mp hp]; rfl) rfl lam_scope (fun _ _ _ _ _ _ => rfl) hr (by rfl) B.min
          (fun f c' A s H hr2 => pe_tup (pa_cons (pe_callB (lenK K) (by rfl) B.len (by decide +kernel) (pa_cons (pe_ix (ixL K) (pv 1) (pv 0) (fun _ _ => rfl)) pa_nil)) (pa_cons (pv 0) pa_nil))) (by decide) rfl (pv 5)))
      (pss_one (ps_ret (pe_ix ix_list (pv 7) (pv 6) (fun _ _ => rfl)))))))), ?_⟩
    have a2 := hh.a2
    have rl : (ready h shut).length ≤ 24 := by
      have h1 := List.length_filter_le (fun k => !shut.testBit k) (List.range h.amid)
      rw [List.length_range] at h1
      show ((List.range h.amid).filter _).length ≤ 24
      omega
    -- ready
    refine ⟨_, rfl, a, _, 2, _, rfl, rfl, ha, atI_nat (j := 2) rfl, _, rfl, by omega, by omega, fun D nD => ?_⟩
    rw [Int.toNat_natCast]
    refine lcs_range (fun i => nI ((List.range i).filter fun k => !shut.testBit k)) nD rfl (fun i hi => ?_) (fun i H5 Zt Zf hi sm5 zt zf => ?_) fun H1 sm1 hD => ?_
    · have h1 := List.length_filter_le (fun k => !shut.testBit k) (List.range i)
      rw [List.length_range] at h1
      rw [nI_len, sizeLine_eq]
      omega
    · refine ⟨rfl, _, rfl, _, rfl, _, _, rfl, _, rfl, ?_⟩
      show if (!shut.testBit i) = true then _ else _
      have e1 := rdy_step shut i
      cases hbit : !shut.testBit i with
      | true =>
        rw [hbit] at e1
        exact iteT ⟨_, rfl, zt _ _ (Same.refl _) e1⟩
      | false =>
        rw [hbit] at e1
        exact iteF (zf _ (Same.refl _) (by rw [e1]; exact List.append_nil _))
    have hD1 : H1 D = some (.lst (nI (ready h shut))) := hD
    -- if ready == []
    refine ⟨_, rfl, Nat.zero_le _, fun z nz => ?_⟩
    have s2 := same_upd (o := .lst []) nz
    have sm2 := sm1.trans s2
    refine rEq_nil (SqL.of (s2 _ _ hD1)) (SqL.of upd_same) (dp_nI _) (sh_dI _) ⟨_, rfl, ?_⟩
    refine ite2 (fun hempty => ?_) (fun hfull => ?_)
    · rw [dI_empty, List.isEmpty_iff] at hempty
      exact qn hempty _ sm2
    · have ne : ready h shut ≠ [] := fun z => by
        rw [dI_empty, z] at hfull
        exact hfull rfl
      -- held
      refine ⟨_, rfl, _, rfl, _, rfl, _, rfl, a, b, e, h, ts, c, es, rfl, hh, Same.seqT sm2 ha, hb.same sm2, hok, Same.seqA sm2 he, hin, few, fewc, fun H3 g qs sm3' ng hl hqn hk => ?_⟩
      have sm3 := sm2.trans sm3'
      have hD3 := sm3' _ _ (s2 _ _ hD1)
      -- best
      refine ⟨_, rfl, D, ready h shut, fun k => (kept h (cls ts) c es k).length, .ref g, rfl, SqL.of hD3, ne, hT.ext sm3, rfl, fun H4 eN T4 => ⟨fun H5 n sm5 hn => ?_, fun H5 m sm5 hm hle => ?_⟩⟩
      · have ltn : n < qs.length := by rw [hl]; exact (mem_ready.mp hn).1
        obtain ⟨y, hy⟩ : ∃ y, qs[n]? = some y := ⟨qs[n], List.getElem?_eq_getElem ltn⟩
        have hg5 := sm5 _ _ (eN _ _ hk.at_ fun _ z => by cases z)
        have hy5 := sm5 _ _ (eN _ _ (hk.each n y hy) fun _ z => by cases z)
        refine ⟨_, rfl, _, rfl, g, _, _, _, rfl, rfl, SqL.of hg5, atI_nat (by rw [List.getElem?_map, hy]; rfl), y, _, rfl, .inl (SqL.of hy5), _, rfl, by show 2 ≤ sizeLine; decide, fun p np => ⟨p, rfl, np, ?_⟩⟩
        rw [nI_len]
      · have ltm : m < qs.length := by rw [hl]; exact (mem_ready.mp hm).1
        obtain ⟨y, hy⟩ : ∃ y, qs[m]? = some y := ⟨qs[m], List.getElem?_eq_getElem ltm⟩
        have hg5 := sm5 _ _ (eN _ _ hk.at_ fun _ z => by cases z)
        have hy5 := sm5 _ _ (eN _ _ (hk.each m y hy) fun _ z => by cases z)
        have eN5 : LamX.ExtN H H5 := ((LamX.ExtN.of sm3).trans eN).trans (LamX.ExtN.of sm5)
        refine ⟨_, rfl, _, rfl, g, _, _, _, rfl, rfl, SqL.of hg5, atI_nat (by rw [List.getElem?_map, hy]; rfl), ?_⟩
        exact qb ne H5 y m eN5 (T4.ext sm5) ⟨(mem_ready.mp hm).1, (mem_ready.mp hm).2, fun k h1 h2 => hle k (mem_ready.mpr ⟨h1, h2⟩)⟩ (sm2.free (hqn y (List.mem_of_getElem? hy))) hy5
end
end Xr
set_option Elab.async false
set_option linter.all false
set_option maxRecDepth 100000
set_option maxHeartbeats 4000000
/-! The walks, 11: _law_ways_held. -/
namespace Xr
open PySem PySem.Spec PyProof.Rows L2
/-- the dict tells look -/
def HeldIs (kvs : List (List Key × V)) (look : T → Option Nat) : Prop := ∀ t, valV kvs (keyOf t) = (look t).map I
theorem there_kept {h : Hall} (H : HallOk h) {cs : List Cl} (R : Right h cs) {look : T → Option Nat} (L : Looks h cs look) {c : Nat} {es : List Nat} {k : Nat} (he : EndsIn h es) {l : List T} (hl : ∀ t, t ∈ l ↔ IsLine h c es k t) (v : Nat) :
    v ∈ l.filterMap look ↔ v ∈ kept h cs c es k := by
  rw [mem_kept H R L he, List.mem_filterMap]
  exact ⟨fun ⟨t, h1, h2⟩ => ⟨t, (hl t).1 h1, h2⟩, fun ⟨t, h1, h2⟩ => ⟨t, (hl t).2 h1, h2⟩⟩
/-- a rising list of whole numbers with the members of l -/
theorem rising_eq {ns : List Int} {l m : List Nat} (hs : ns.Pairwise (· < ·)) (hm : ∀ k : Int, k ∈ ns ↔ k ∈ m.map fun n : Nat => (n : Int)) (hl : l.Pairwise (· < ·)) (e : ∀ v, v ∈ m ↔ v ∈ l) : ns.map V.int = nI l := by
  have h1 : ns = l.map fun n : Nat => (n : Int) := by
    refine eq_of_strict (r := fun a b : Int => a < b) (fun a b c => Int.lt_trans) (fun a => Int.lt_irrefl a) hs (List.pairwise_map.mpr (hl.imp fun {a b} z => by omega)) fun k => ?_
    rw [hm k, List.mem_map, List.mem_map]
    exact ⟨fun ⟨n, h1, h2⟩ => ⟨n, (e n).1 h1, h2⟩, fun ⟨n, h1, h2⟩ => ⟨n, (e n).2 h1, h2⟩⟩
  rw [h1, ← nI_int]
theorem perm_strict {l m : List Nat} (p : l.Perm m) (s : l.Pairwise (· ≤ ·)) (h : m.Pairwise (· < ·)) : l = m := by
  have nd : l.Pairwise fun a b => a ≠ b := (p.pairwise_iff (fun {x y} (z : x ≠ y) => z.symm)).2 (h.imp fun {a b} z => Nat.ne_of_lt z)
  exact eq_of_strict (r := fun a b : Nat => a < b) (fun a b c => Nat.lt_trans) (fun a => Nat.lt_irrefl a) ((s.and nd).imp fun {a b} z => Nat.lt_of_le_of_ne z.1 z.2) h fun k => p.mem_iff
theorem fm_step {look : T → Option Nat} {l : List T} {i : Nat} {t : T} (h : l[i]? = some t) : nI ((l.take (i + 1)).filterMap look) = nI ((l.take i).filterMap look) ++ match look t with
    | some v => [I v]
    | none => [] := by
  rw [List.take_add_one, h, List.filterMap_append]
  unfold nI
  rw [List.map_append]
  congr 1
  show List.map I (List.filterMap look [t]) = _
  rw [List.filterMap_cons]
  cases look t <;> rfl
theorem isiK (K : PySem.W.Frag) {X : Cx} (h : X.K = K := by rfl) : CallR X (.builtin "isinstance") (rIsi K) := by
  subst h
  exact call_isi
section
variable {P : Program} {w : World} {K : PySem.W.Frag} {mg : Str → Option Value} {base : Heap} {f : Addr} {fd : FuncData}
def spWheld (K : PySem.W.Frag) : Sp := fun vs H Q _ => ∃ (a d q fr kp e : Addr) (h : Hall) (cs : List Cl) (c : Nat) (es : List Nat) (shut : Nat) (qs : List Addr) (kvs : List (List Key × V)) (look : T → Option Nat), vs = [.ref a, .ref d, .ref q, .ref fr, .ref kp] ∧ HallOk h ∧ SqT K H a (hallV h) ∧
  H d = some (.dT kvs) ∧ HeldIs kvs look ∧ Looks h cs look ∧ Right h cs ∧ SqT K H q [I c, .ref e, I shut] ∧ SqA K H e (nI es) ∧ EndsIn h es ∧ es.length ≤ 12 ∧ cs.length ≤ 1000 ∧
  SqL K H fr (nI (free h cs c es shut)) ∧ KeptAt H kp qs (kept h cs c es) ∧ qs.length = h.amid ∧ ∀ H', Same H H' → Q (.bl true) H'
theorem scWheld : FnScope ["_law_hall_here", "_law_held", "_law_asked_here", "_law_free", "_law_kept", "_law_caller", "_law_ends_here", "_law_shut", "_law_k", "_law_there", "_law_line"] ["_law_hall_here", "_law_held", "_law_asked_here", "_law_free", "_law_kept"] (defScope sWheld) := ⟨rfl, rfl, rfl, by decide +kernel, rfl, by decide +kernel, by decide +kernel⟩
theorem ok_wheld (B : Bi mg) (F : FnP K "_law_ways_held" sWheld [] f fd) (hL : Has P w K mg base "_law_lines" 1 ["_law_hall_here", "_law_caller", "_law_ends_here", "_law_k"] (spLines K)) (hA : Has P w K mg base "_law_alike" 2 ["_law_found", "_law_due"] (spAlike K 1)) :
    FnOk P w K mg base CX0 3 f fd ["_law_hall_here", "_law_held", "_law_asked_here", "_law_free", "_law_kept"] (spWheld K) := by
  refine F.ok scWheld (fun vs H Q E h => ?_) (fun cdv A outer s H vs Q E hr h => ?_)
  · obtain ⟨a, d, q, fr, kp, e, h, cs, c, es, shut, qs, kvs, look, rfl, _⟩ := h
    rfl
  · obtain ⟨a, d, q, fr, kp, e, h, cs, c, es, shut, qs, kvs, look, rfl, hh, ha, hd, hk, hlk, R, hq, he, hin, few, fewc, hfr, hkp, hql, fin⟩ := h
    have hu := hu_of hr
    refine ⟨_, PSs.nox (pss_cons (ps_asg (pv 2) (pg_tup rfl (pgs_cons (pg_name (i := 5) scWheld.nd rfl (.inl rfl)) (pgs_cons (pg_name (i := 6) scWheld.nd rfl (.inl rfl)) (pgs_cons (pg_name (i := 7) scWheld.nd rfl (.inl rfl)) pgs_nil)))))
      (pss_cons (ps_if (PW.pt (pw_or (pt_not (pt_val (pe_callB call_isi (by rfl) B.isi (by decide +kernel) (pa_cons (pv 3) (pa_cons (pe_bltn (v := .ty "list") (by rfl) B.list (by decide +kernel) rfl) pa_nil)))))
          (pw_or (pt_cmpR (op_neD hr.units) (pv 3) (pe_callB cr_sortA (by rfl) B.sorted (by decide +kernel) (pa_cons (pv 3) pa_nil)) (nomark _))
            (pw_or1 (pt_cmpR opn_ne (RZ.pe_lenSetI (by rfl) B.len (by rfl) B.set (pv 3)) (pe_callB (lenK K) (by rfl) B.len (by decide +kernel) (pa_cons (pv 3) pa_nil)) (nomark _)))))) (pss_one (ps_ret pe_bl)) pss_nil)
      (pss_cons (ps_if (PW.pt (pw_or (pt_not (pt_val (pe_callB call_isi (by rfl) B.isi (by decide +kernel) (pa_cons (pv 4) (pa_cons (pe_bltn (v := .ty "list") (by rfl) B.list (by decide +kernel) rfl) pa_nil)))))
          (pw_or1 (pt_cmpR opn_ne (pe_callB (lenK K) (by rfl) B.len (by decide +kernel) (pa_cons (pv 4) pa_nil)) (pe_ix ix_tup (pv 0) pe_int (fun _ _ => rfl)) (nomark _))))) (pss_one (ps_ret pe_bl)) pss_nil)
      (pss_cons (ps_for PassesOwn.never rfl (pi_range1 (by rfl) B.range (pa_cons (pe_ix ix_tup (pv 0) pe_int (fun _ _ => rfl)) pa_nil)) (pg_name (i := 8) scWheld.nd rfl (.inl rfl))
        (pss_cons (ps_setLc (i := 9) (own := [("_law_line", 10)]) (g := gName 10) rfl scWheld.nd rfl rfl (sw_true rfl rfl rfl (by decide +kernel)) (pi_list (pe_has hL hr (by decide) (pa_cons (pv 0) (pa_cons (pv 5) (pa_cons (pv 6) (pa_cons (pv 8) pa_nil))))))
            (blkOk_by (own := [("_law_line", 10)]) (N := ["_law_hall_here", "_law_held", "_law_asked_here", "_law_free", "_law_kept", "_law_caller", "_law_ends_here", "_law_shut", "_law_k", "_law_there", "_law_line"]) (sc := defScope sWheld) (by decide +kernel))
            (fun _ _ _ _ _ => pg_name (i := 10) scWheld.nd rfl (Or.inl rfl)) (fun _ _ _ _ _ => pts_one (pt_cmp (pc_din hu (pv 10) (pv 1)))) (fun _ _ _ _ _ => pe_dget hu (pv 1) (pv 10) (fun _ _ => rfl)))
        (pss_cons (ps_if (pt_not (pt_val (pe_has hA hr (by decide) (pa_cons (pe_ix ix_list (pv 4) (pv 8) (fun _ _ => rfl)) (pa_cons (pe_callB (cr_sortedSet rfl) (by rfl) B.sorted (by decide +kernel) (pa_cons (pe_callTy (cr_setI rfl) (by rfl) B.set (by decide +kernel) (pa_cons (pv 9) pa_nil)) pa_nil)) pa_nil))))) (pss_one (ps_ret pe_bl)) pss_nil)
        (pss_one (ps_if (pt_cmpR op_ne (pe_cmpR op_in_seq (pv 8) (pv 3) (by rfl)) (pe_and (pe_cmpR (op_eqD hr.units) (pv 9) (pe_lst pa_nil) (nomark _)) (pe_one (pe_cmpR opn_eq (pe_op opn_and (pe_op opn_shr (pv 7) (pv 8)) pe_int) pe_int (nomark _)))) (nomark _)) (pss_one (ps_ret pe_bl)) pss_nil)))))
      (pss_one (ps_ret (pe_cmpR (op_eqD hr.units) (pe_lc (own := [("_law_k", 8)]) (g := gName 8) rfl scWheld.nd (pi_list (pv 3))
          (blkOk_by (own := [("_law_k", 8)]) (N := ["_law_hall_here", "_law_held", "_law_asked_here", "_law_free", "_law_kept", "_law_caller", "_law_ends_here", "_law_shut", "_law_k", "_law_there", "_law_line"]) (sc := defScope sWheld) (by decide +kernel))
          (fun _ _ _ _ _ => pg_name (i := 8) scWheld.nd rfl (Or.inl rfl))
          (fun _ _ _ _ _ => pts_one (PW.pt (pw_or (pt_val (pe_callB (isiK K) (by rfl) B.isi (by decide +kernel) (pa_cons (pv 8) (pa_cons (pe_bltn (v := .ty "bool") (by rfl) B.bool (by decide +kernel) rfl) pa_nil))))
            (pw_or1 (pt_not (pt_chain opn_le opn_lt pe_int (pv 8) (pe_ix (ixT K) (pv 0) pe_int (fun _ _ => rfl))))))))
          (fun _ _ _ _ _ => pv 8)) (pe_lst pa_nil) (nomark _)))))))), ?_⟩
    have a2 := hh.a2
    have lfr : (free h cs c es shut).length ≤ 24 := by
      have h1 := List.length_filter_le (fun k => !shut.testBit k && (kept h cs c es k).isEmpty) (List.range h.amid)
      rw [List.length_range] at h1
      unfold free
      refine Nat.le_trans (List.length_filter_le _ _) ?_
      rw [List.length_range]
      exact a2
    refine ⟨_, rfl, q, _, rfl, hq, rfl, _, _, rfl, _, _, rfl, _, _, rfl, rfl, ?_⟩
    -- the ways' form
    refine ⟨_, rfl, _, _, _, _, _, rfl, .ty _, isi_LI hfr, kit_ty k_ll, _, rfl, ?_⟩
    refine iteF ?_
    refine ⟨_, rfl, _, rfl, fr, zI (free h cs c es shut), rfl, by rw [← nI_int]; exact .inl hfr, by rw [List.length_map]; omega, fun ms p1 pm ps n1 => ?_⟩
    obtain ⟨l1, el, pl, sl⟩ := nat_perm pm ps
    have e1 : l1 = free h cs c es shut := perm_strict pl sl (free_strict h cs c es shut)
    subst e1
    have s1 := same_upd (o := .lst (ms.map V.int)) n1
    have hp1 : upd H p1 (.lst (ms.map V.int)) p1 = some (.lst (nI (free h cs c es shut))) := by rw [upd_same, el]
    generalize upd H p1 (.lst (ms.map V.int)) = H1 at s1 hp1
    refine rNe_nI (Same.seq s1 hfr) (SqL.of hp1) ⟨_, rfl, ?_⟩
    rw [decide_eq_true rfl]
    refine iteF ?_
    refine ⟨_, rfl, fr, zI (free h cs c es shut), rfl, by rw [← nI_int]; exact Same.seq s1 hfr, ?_, by rw [List.length_map]; omega, ?_⟩
    · exact List.pairwise_map.mpr ((free_strict h cs c es shut).imp fun {a b} z => by omega)
    refine ⟨_, rfl, fr, _, rfl, .inl (Same.seq s1 hfr), _, _, rfl, rfl, _, rfl, ?_⟩
    rw [List.length_map, nI_len, decide_eq_true rfl]
    refine iteF ?_
    -- the holders' form
    refine ⟨_, rfl, _, _, _, _, _, rfl, .ty _, isi_LI (SqL.of (s1 _ _ hkp.at_)), kit_ty k_ll, _, rfl, ?_⟩
    refine iteF ?_
    refine ⟨_, rfl, kp, _, rfl, .inl (SqL.of (s1 _ _ hkp.at_)), _, rfl, a, _, 2, _, rfl, rfl, Same.seqT s1 ha, atI_nat (j := 2) rfl, _, _, rfl, rfl, _, rfl, ?_⟩
    rw [List.length_map, hql, decide_eq_true rfl]
    refine iteF ?_
    -- the racks amid
    refine ⟨_, rfl, a, _, 2, _, rfl, rfl, Same.seqT s1 ha, atI_nat (j := 2) rfl, _, rfl, by omega, by omega, ?_⟩
    rw [Int.toNat_natCast]
    refine fors_range (n := h.amid) (fun i σ H' => ∃ x8 x9 : Option V, σ = [some (.ref a), some (.ref d), some (.ref q), some (.ref fr), some (.ref kp), some (I c), some (.ref e), some (I shut), x8, x9, none] ∧ Same H H')
      ⟨none, none, rfl, s1⟩ ?_ ?_
    · rintro k σ H2 hkm ⟨x8, x9, rfl, s2⟩
      refine ⟨_, rfl, _, rfl, _, rfl, _, rfl, a, e, h, c, es, k, rfl, hh, Same.seqT s2 ha, Same.seqA s2 he, few, fun H3 p3 ls s3' n3 hp3 hls hmem hlen => ?_⟩
      have s3 := s2.trans s3'
      refine ⟨p3, rfl, ⟨_, SqL.of hp3⟩, fun D nD => ?_⟩
      have lth : ∀ i, ((tof ls).take i |>.filterMap look).length ≤ 13 := fun i => by
        refine Nat.le_trans (List.length_filterMap_le _ _) ?_
        rw [List.length_take, List.length_map]
        exact Nat.le_trans (Nat.min_le_right _ _) hlen
      refine lcs_list (K := K) (a := p3) (xs := refT ls) (fun i => nI (((tof ls).take i).filterMap look)) nD (SqL.of hp3) rfl (fun i hi => ?_) (fun j y H4 Zt Zf hj s4 zt zf => ?_) fun H4 s4 hD => ?_
      · have := lth i
        rw [nI_len, sizeLine_eq]
        omega
      · obtain ⟨x, hx, rfl⟩ := refT_at hj
        have hx4 := s4 _ _ (hls x (List.mem_of_getElem? hx))
        have hd4 := (s3.trans s4) _ _ hd
        have hg : DGet H4 d (.ref x.1) ((look x.2).map I) := by
          have z := DGet.t (k := keyOf x.2) hd4 hx4
          rw [hk] at z
          exact z
        have st := fm_step (look := look) (l := tof ls) (i := j) (t := x.2) (by rw [List.getElem?_map, hx]; rfl)
        refine ⟨rfl, _, rfl, _, rfl, d, _, rfl, hg, _, rfl, ?_⟩
        cases hv : look x.2 with
        | some v =>
          rw [hv] at st hg
          exact iteT ⟨_, rfl, _, rfl, d, _, rfl, hg, zt _ _ (Same.refl _) st⟩
        | none =>
          rw [hv] at st
          exact iteF (zf _ (Same.refl _) (by rw [st]; exact List.append_nil _))
      rw [take_all (l := tof ls) (by rw [List.length_map, List.length_map])] at hD
      have l13 := lth (tof ls).length
      rw [take_all (l := tof ls) rfl] at l13
      have hth := there_kept hh R hlk (c := c) (es := es) (k := k) hin (l := tof ls) hmem
      generalize (tof ls).filterMap look = th at hD l13 hth
      have s4' := s3.trans s4
      -- alike
      have ltk : k < qs.length := by rw [hql]; exact hkm
      obtain ⟨y, hy⟩ : ∃ y, qs[k]? = some y := ⟨qs[k], List.getElem?_eq_getElem ltk⟩
      refine ⟨_, rfl, _, rfl, kp, _, _, _, rfl, rfl, SqL.of (s4' _ _ hkp.at_), atI_nat (by rw [List.getElem?_map, hy]; rfl), ?_⟩
      refine ⟨_, rfl, D, zI th, rfl, by rw [← nI_int]; exact SqL.of hD, by rw [List.length_map]; unfold scanBound; omega, fun p5 c5 n5 hc5 => ?_⟩
      have s5 := same_upd (o := SetO w p5 (fun j => decide (j ∈ zI th)) c5) n5
      refine ⟨p5, _, c5, rfl, upd_same, by rw [List.length_map] at hc5; omega, fun ns p6 hs6 hm6 hl6 n6 => ?_⟩
      have e6 : ns.map V.int = nI (kept h cs c es k) := rising_eq hs6 (fun z => by rw [hm6 z, decide_eq_true_eq]) (R.kept_strict c es k) hth
      have s6 := same_upd (o := .lst (ns.map V.int)) n6
      have hp6 : upd (upd H4 p5 (SetO w p5 (fun j => decide (j ∈ zI th)) c5)) p6 (.lst (ns.map V.int)) p6 = some (.lst (nI (kept h cs c es k))) := by rw [upd_same, e6]
      have s46 := s5.trans s6
      have lk : (kept h cs c es k).length ≤ 1000 := by
        unfold kept
        rw [List.length_map]
        exact Nat.le_trans (List.length_filter_le _ _) fewc
      refine ⟨_, _, rfl, alk_nI 0 (SqL.of ((s4'.trans s46) _ _ (hkp.each k y hy))) (SqL.of hp6) lk, _, rfl, ?_⟩
      refine iteF ?_
      have s6' := s4'.trans s46
      -- k in free
      refine ⟨_, rfl, _, rfl, fr, _, rfl, .inl (Same.seq s6' hfr), rfl, flat_nI _, ?_⟩
      rw [inV_nI]
      refine ⟨_, rfl, Nat.zero_le _, fun z nz => ?_⟩
      have s7 := same_upd (o := .lst []) nz
      refine rEq_nil (SqL.of (s7 _ _ (s46 _ _ hD))) (SqL.of upd_same) (dp_nI _) (sh_dI _) ?_
      have s7' := s6'.trans s7
      have hA : (free h cs c es shut).contains k = ((dI th).isEmpty && !shut.testBit k) := by
        rw [Bool.eq_iff_iff, List.contains_iff_mem, mem_free, Bool.and_eq_true, Bool.not_eq_true', dI_empty, List.isEmpty_iff]
        constructor
        · rintro ⟨_, h2, h3⟩
          refine ⟨List.eq_nil_iff_forall_not_mem.mpr fun v hv => ?_, h2⟩
          have := (hth v).1 hv
          rw [h3] at this
          cases this
        · rintro ⟨h2, h3⟩
          refine ⟨hkm, h3, List.eq_nil_iff_forall_not_mem.mpr fun v hv => ?_⟩
          have := (hth v).2 hv
          rw [h2] at this
          cases this
      have hB : (if false = true then !(free h cs c es shut).contains k else (free h cs c es shut).contains k) = ((dI th).isEmpty && !shut.testBit k) := hA
      rw [hB]
      refine ⟨_, rfl, ?_⟩
      cases hem : (dI th).isEmpty with
      | true =>
        refine iteT ⟨_, rfl, _, rfl, _, _, rfl, rfl, _, 1, rfl, rfl, _, 0, rfl, rfl, ?_⟩
        show rNe (V.bl (true && !shut.testBit k)) (V.bl (decide (shut >>> k &&& 1 = 0))) _ _
        rw [open_bit, Bool.true_and]
        refine ⟨rfl, _, rfl, ?_⟩
        rw [decide_eq_true rfl]
        exact iteF ⟨_, _, rfl, s7'⟩
      | false =>
        refine iteF ?_
        rw [Bool.false_and]
        refine ⟨rfl, _, rfl, ?_⟩
        rw [decide_eq_true rfl]
        exact iteF ⟨_, _, rfl, s7'⟩
    · rintro σ H2 ⟨x8, x9, rfl, s2⟩
      refine ⟨_, rfl, fr, rfl, ⟨_, Same.seq s2 hfr⟩, fun D nD => ?_⟩
      refine lcs_list (K := K) (a := fr) (xs := nI (free h cs c es shut)) (fun i => []) nD (Same.seq s2 hfr) rfl (fun i hi => by show 0 < sizeLine; decide) (fun j y H3 Zt Zf hj s3 zt zf => ?_) fun H3 s3 hD => ?_
      · obtain ⟨k, hk', rfl⟩ := nI_at hj
        have hkm := (mem_free.mp (List.mem_of_getElem? hk')).1
        refine ⟨rfl, ?_⟩
        refine ⟨_, rfl, _, _, _, _, _, rfl, .ty _, (.base (.int _)), kit_ty k_ib, _, rfl, ?_⟩
        refine iteF ?_
        refine ⟨_, rfl, 0, _, rfl, rfl, _, rfl, ?_⟩
        rw [decide_eq_true (Nat.zero_le _)]
        refine iteT ⟨_, rfl, a, _, 2, _, rfl, rfl, Same.seqT (s2.trans s3) ha, atI_nat (j := 2) rfl, _, _, rfl, rfl, _, rfl, ?_⟩
        rw [decide_eq_true hkm]
        exact iteF (zf _ (Same.refl _) rfl)
      · refine ⟨Nat.zero_le _, fun z nz => ?_⟩
        have s4 := same_upd (o := .lst []) nz
        refine rEq_nil (ds := []) (SqL.of (s4 _ _ hD)) (SqL.of upd_same) .nil sh_nil ?_
        exact fin _ ((s2.trans s3).trans s4)
end
end Xr
set_option Elab.async false
set_option linter.all false
set_option maxRecDepth 100000
set_option maxHeartbeats 4000000
/-! The walks, 12: _law_counted. -/
namespace Xr
open PySem PySem.Spec PyProof.Rows L2
theorem contains_div (n r : Nat) (es : List Nat) : (es.map fun e => e / n).contains r = es.any fun e => e / n == r := by
  rw [Bool.eq_iff_iff, List.contains_iff_mem, List.mem_map, List.any_eq_true]
  exact ⟨fun ⟨e, h1, h2⟩ => ⟨e, h1, beq_iff_eq.mpr h2⟩, fun ⟨e, h1, h2⟩ => ⟨e, h1, beq_iff_eq.mp h2⟩⟩
theorem flt_step {p : Nat → Bool} {l : List Nat} {i k : Nat} (h : l[i]? = some k) : nI ((l.take (i + 1)).filter p) = nI ((l.take i).filter p) ++ if p k = true then [I k] else [] := by
  rw [filter_take p h]
  unfold nI
  rw [List.map_append]
  congr 1
  split <;> rfl
theorem held_some {kvs : List (List Key × V)} {look : T → Option Nat} (h : HeldIs kvs look) (t : T) : (valV kvs (keyOf t)).isSome = (look t).isSome := by
  rw [h t]
  cases look t <;> rfl
theorem far_step (p : Nat → Bool) (g : Nat → Nat) (i : Nat) : nI (((List.range (i + 1)).filter p).map g) = nI (((List.range i).filter p).map g) ++ if p i = true then [I (g i)] else [] := by
  rw [List.range_succ, List.filter_append, List.map_append]
  unfold nI
  rw [List.map_append]
  congr 1
  rw [List.filter_cons]
  split <;> rfl
section
variable {P : Program} {w : World} {K : PySem.W.Frag} {mg : Str → Option Value} {base : Heap} {f : Addr} {fd : FuncData}
def spCounted (K : PySem.W.Frag) : Sp := fun vs H Q _ => ∃ (a d q e : Addr) (h : Hall) (cs : List Cl) (c : Nat) (es : List Nat) (shut : Nat) (kvs : List (List Key × V)) (look : T → Option Nat), vs = [.ref a, .ref d, .ref q] ∧ HallOk h ∧ SqT K H a (hallV h) ∧
  H d = some (.dT kvs) ∧ HeldIs kvs look ∧ Looks h cs look ∧ Right h cs ∧ SqT K H q [I c, .ref e, I shut] ∧ SqL K H e (nI es) ∧ EndsIn h es ∧ es.length ≤ 12 ∧
  ∀ H' p g, Same H H' → H' p = some (.tup [I (cIn h cs c shut), .ref g, I (ready h shut).length]) → H' g = some (.lst (nI ((racksOf h es).map (cOut h cs shut)))) → Q (.ref p) H'
theorem scCounted : FnScope ["_law_hall_here", "_law_held", "_law_asked_here", "_law_caller", "_law_ends_here", "_law_shut", "_law_ready", "_law_one", "_law_far", "_law_rack", "_law_k", "_law_end"] ["_law_hall_here", "_law_held", "_law_asked_here"] (defScope sCounted) := ⟨rfl, rfl, rfl, by decide +kernel, rfl, by decide +kernel, by decide +kernel⟩
theorem ok_counted (B : Bi mg) (F : FnP K "_law_counted" sCounted [] f fd) : FnOk P w K mg base CX0 1 f fd ["_law_hall_here", "_law_held", "_law_asked_here"] (spCounted K) := by
  refine F.ok scCounted (fun vs H Q E h => ?_) (fun cdv A outer s H vs Q E hr h => ?_)
  · obtain ⟨a, d, q, e, h, cs, c, es, shut, kvs, look, rfl, _⟩ := h
    rfl
  · obtain ⟨a, d, q, e, h, cs, c, es, shut, kvs, look, rfl, hh, ha, hd, hk, hlk, R, hq, he, hin, few, fin⟩ := h
    have hu := hu_of hr
    refine ⟨_, PSs.nox (pss_cons (ps_asg (pv 2) (pg_tup rfl (pgs_cons (pg_name (i := 3) scCounted.nd rfl (.inr rfl)) (pgs_cons (pg_name (i := 4) scCounted.nd rfl (.inl rfl)) (pgs_cons (pg_name (i := 5) scCounted.nd rfl (.inr rfl)) pgs_nil)))))
      (pss_cons (ps_setLc (i := 6) (own := [("_law_k", 10)]) (g := gName 10) rfl scCounted.nd rfl rfl (sw_true rfl rfl rfl (by decide +kernel)) (pi_range1 (by rfl) B.range (pa_cons (pe_ix ix_tup (pv 0) pe_int (fun _ _ => rfl)) pa_nil))
          (blkOk_by (own := [("_law_k", 10)]) (N := ["_law_hall_here", "_law_held", "_law_asked_here", "_law_caller", "_law_ends_here", "_law_shut", "_law_ready", "_law_one", "_law_far", "_law_rack", "_law_k", "_law_end"]) (sc := defScope sCounted) (by decide +kernel))
          (fun _ _ _ _ _ => pg_name (i := 10) scCounted.nd rfl (Or.inl rfl)) (fun _ _ _ _ _ => pts_one (pt_cmpR opn_eq (pe_op opn_and (pe_op opn_shr (pv 5) (pv 10)) pe_int) pe_int (by rfl))) (fun _ _ _ _ _ => pv 10))
      (pss_cons (ps_set (i := 7) scCounted.nd rfl (.inl rfl) (pe_callB (lenK K) (by rfl) B.len (by decide +kernel) (pa_cons (pe_lc (own := [("_law_k", 10)]) (g := gName 10) rfl scCounted.nd (pi_list (pv 6))
          (blkOk_by (own := [("_law_k", 10)]) (N := ["_law_hall_here", "_law_held", "_law_asked_here", "_law_caller", "_law_ends_here", "_law_shut", "_law_ready", "_law_one", "_law_far", "_law_rack", "_law_k", "_law_end"]) (sc := defScope sCounted) (by decide +kernel))
          (fun _ _ _ _ _ => pg_name (i := 10) scCounted.nd rfl (Or.inl rfl)) (fun _ _ _ _ _ => pts_one (pt_cmp (pc_din hu (pe_tup (pa_cons pe_str (pa_cons (pe_op opn_div (pv 3) (pe_ix (ixT K) (pv 0) pe_int (fun _ _ => rfl))) (pa_cons (pv 10) pa_nil)))) (pv 1)))) (fun _ _ _ _ _ => pv 10)) pa_nil)))
      (pss_cons (ps_set (i := 8) scCounted.nd rfl (.inl rfl) (pe_lst pa_nil))
      (pss_cons (ps_for PassesOwn.never rfl (pi_range1 (by rfl) B.range (pa_cons (pe_ix ix_tup (pv 0) pe_int (fun _ _ => rfl)) pa_nil)) (pg_name (i := 9) scCounted.nd rfl (.inr rfl))
        (pss_one (ps_if (pt_cmpR op_in_seq (pv 9) (pe_lc (own := [("_law_end", 11)]) (g := gName 11) rfl scCounted.nd (pi_list (pv 4))
            (blkOk_by (own := [("_law_end", 11)]) (N := ["_law_hall_here", "_law_held", "_law_asked_here", "_law_caller", "_law_ends_here", "_law_shut", "_law_ready", "_law_one", "_law_far", "_law_rack", "_law_k", "_law_end"]) (sc := defScope sCounted) (by decide +kernel))
            (fun _ _ _ _ _ => pg_name (i := 11) scCounted.nd rfl (Or.inl rfl)) (fun _ _ _ _ _ => pts_nil) (fun _ _ _ _ _ => pe_op opn_div (pv 11) (pe_ix (ixT K) (pv 0) pe_int (fun _ _ => rfl)))) (by rfl))
          (pss_one (ps_expr (pe_bm PySem.F.plainAttrs_list PySem.F.slot_list_append PySem.F.type_list_append mt_append (pv 8) (pa_cons (pe_callB (lenK K) (by rfl) B.len (by decide +kernel) (pa_cons (pe_lc (own := [("_law_k", 10)]) (g := gName 10) rfl scCounted.nd (pi_list (pv 6))
            (blkOk_by (own := [("_law_k", 10)]) (N := ["_law_hall_here", "_law_held", "_law_asked_here", "_law_caller", "_law_ends_here", "_law_shut", "_law_ready", "_law_one", "_law_far", "_law_rack", "_law_k", "_law_end"]) (sc := defScope sCounted) (by decide +kernel))
            (fun _ _ _ _ _ => pg_name (i := 10) scCounted.nd rfl (Or.inl rfl)) (fun _ _ _ _ _ => pts_one (pt_cmp (pc_din hu (pe_tup (pa_cons pe_str (pa_cons (pv 9) (pa_cons (pv 10) pa_nil)))) (pv 1)))) (fun _ _ _ _ _ => pv 10)) pa_nil)) pa_nil)))) pss_nil)))
      (pss_one (ps_ret (pe_tup (pa_cons (pv 7) (pa_cons (pv 8) (pa_cons (pe_callB (lenK K) (by rfl) B.len (by decide +kernel) (pa_cons (pv 6) pa_nil)) pa_nil))))))))))), ?_⟩
    have a2 := hh.a2
    have o2 := hh.o2
    have rl : (ready h shut).length ≤ 24 := by
      have h1 := List.length_filter_le (fun k => !shut.testBit k) (List.range h.amid)
      rw [List.length_range] at h1
      show ((List.range h.amid).filter _).length ≤ 24
      omega
    refine ⟨_, rfl, q, _, rfl, hq, rfl, _, _, rfl, _, _, rfl, _, _, rfl, rfl, ?_⟩
    -- ready
    refine ⟨_, rfl, a, _, 2, _, rfl, rfl, ha, atI_nat (j := 2) rfl, _, rfl, by omega, by omega, fun r nr => ?_⟩
    rw [Int.toNat_natCast]
    refine lcs_range (fun i => nI ((List.range i).filter fun k => !shut.testBit k)) nr rfl (fun i hi => ?_) (fun i H5 Zt Zf hi sm5 zt zf => ?_) fun H1 s1 hr0 => ?_
    · have h1 := List.length_filter_le (fun k => !shut.testBit k) (List.range i)
      rw [List.length_range] at h1
      rw [nI_len, sizeLine_eq]
      omega
    · refine ⟨rfl, _, rfl, _, rfl, _, _, rfl, rfl, _, 1, rfl, rfl, _, 0, rfl, rfl, _, rfl, ?_⟩
      rw [open_bit]
      have e1 := rdy_step shut i
      cases hbit : !shut.testBit i with
      | true =>
        rw [hbit] at e1
        exact iteT ⟨_, rfl, zt _ _ (Same.refl _) e1⟩
      | false =>
        rw [hbit] at e1
        exact iteF (zf _ (Same.refl _) (by rw [e1]; exact List.append_nil _))
    have hr1 : H1 r = some (.lst (nI (ready h shut))) := hr0
    have h1000 : h.cal < 1000 := by have := hh.c2; omega
    have e1000 : h.ends < 1000 := by have := hh.e2; omega
    -- one
    refine ⟨_, rfl, r, rfl, ⟨_, SqL.of hr1⟩, fun D nD => ?_⟩
    refine lcs_list (K := K) (a := r) (xs := nI (ready h shut)) (fun i => nI (((ready h shut).take i).filter fun k => onLine (inP h (c / h.cal)) cs k)) nD (SqL.of hr1) rfl (fun i hi => ?_) (fun j y H3 Zt Zf hj s3 zt zf => ?_) fun H2 s2 hD => ?_
    · have := filter_few (fun k => onLine (inP h (c / h.cal)) cs k) (ready h shut) 24 i rl
      rw [nI_len, sizeLine_eq]
      omega
    · obtain ⟨k, hkk, rfl⟩ := nI_at hj
      have s13 := s1.trans s3
      refine ⟨rfl, _, rfl, _, rfl, a, _, 1, _, rfl, rfl, Same.seqT s13 ha, atI_nat (j := 1) rfl, _, _, rfl, rfl, ⟨hh.c1, h1000⟩, _, rfl, by show 3 ≤ sizeLine; decide, fun p np => ?_⟩
      have s4 : Same H3 (upd H3 p (tupT (.li false (c / h.cal) k))) := same_upd np
      refine ⟨_, rfl, d, _, rfl, DGet.t (k := keyOf (.li false (c / h.cal) k)) ((s13.trans s4) _ _ hd) upd_same, _, rfl, ?_⟩
      have e1 := flt_step (p := fun k => onLine (inP h (c / h.cal)) cs k) hkk
      rw [held_some hk, look_in hlk]
      cases hb : onLine (inP h (c / h.cal)) cs k with
      | true =>
        rw [hb] at e1
        exact iteT ⟨_, rfl, zt _ _ s4 e1⟩
      | false =>
        rw [hb] at e1
        exact iteF (zf _ s4 (by rw [e1]; exact List.append_nil _))
    rw [take_all (l := ready h shut) (by rw [nI_len])] at hD
    have s12 := s1.trans s2
    have hr2 := s2 _ _ hr1
    refine ⟨D, _, rfl, .inl (SqL.of hD), ?_⟩
    rw [nI_len]
    -- far
    refine ⟨Nat.zero_le _, fun g ng => ?_⟩
    have s3 := same_upd (o := .lst []) ng
    have s13 := s12.trans s3
    have Hg : H g = none := s12.free ng
    have rg : r ≠ g := ne_of_none hr2 ng
    refine ⟨_, rfl, a, _, 3, _, rfl, rfl, Same.seqT s13 ha, atI_nat (j := 3) rfl, _, rfl, by omega, by omega, ?_⟩
    rw [Int.toNat_natCast]
    refine fors_range (n := h.outs) (fun i σ H' => ∃ x9 : Option V, σ = [some (.ref a), some (.ref d), some (.ref q), some (I c), some (.ref e), some (I shut), some (.ref r), some (I (cIn h cs c shut)), some (.ref g), x9, none, none] ∧ Same H H' ∧ H' r = some (.lst (nI (ready h shut))) ∧
        H' g = some (.lst (nI (((List.range i).filter fun r => es.any fun e => e / h.ends == r).map (cOut h cs shut)))))
      ⟨none, rfl, s13, s3 _ _ hr2, upd_same⟩ ?_ ?_
    · rintro i σ H4 hi ⟨x9, rfl, s4, hr4, hg4⟩
      refine ⟨_, rfl, _, rfl, e, rfl, ⟨_, Same.seq s4 he⟩, fun D2 nD2 => ?_⟩
      refine lcs_list (K := K) (a := e) (xs := nI es) (fun j => nI ((es.take j).map fun e => e / h.ends)) nD2 (Same.seq s4 he) rfl (fun j hj => ?_) (fun j y H5 Zt Zf hj s5 zt zf => ?_) fun H5 s5 hD2 => ?_
      · rw [nI_len, List.length_map, List.length_take, sizeLine_eq]
        have := Nat.min_le_right j es.length
        omega
      · obtain ⟨k, hkk, rfl⟩ := nI_at hj
        refine ⟨rfl, _, rfl, _, rfl, a, _, 4, _, rfl, rfl, Same.seqT (s4.trans s5) ha, atI_nat (j := 4) rfl, _, _, rfl, rfl, ⟨hh.e1, e1000⟩, zt _ _ (Same.refl _) ?_⟩
        rw [List.take_add_one, hkk, List.map_append]
        unfold nI
        rw [List.map_append]
        rfl
      rw [take_all (l := es) (by rw [nI_len])] at hD2
      refine ⟨D2, _, rfl, .inl (SqL.of hD2), rfl, flat_nI _, _, rfl, ?_⟩
      show if (inV (I i) (nI (es.map fun e => e / h.ends))) = true then _ else _
      rw [inV_nI, contains_div]
      have st := far_step (fun r => es.any fun e => e / h.ends == r) (cOut h cs shut) i
      have s45 := s4.trans s5
      cases hp : es.any fun e => e / h.ends == i with
      | false =>
        rw [hp] at st
        refine iteF ⟨_, rfl, s45, s5 _ _ hr4, ?_⟩
        rw [st, s5 _ _ hg4]
        exact congrArg (fun l => some (HO.lst l)) (List.append_nil _).symm
      | true =>
        rw [hp] at st
        refine iteT ⟨_, rfl, .inl ⟨rfl, _, SqL.of (s5 _ _ hg4)⟩, _, rfl, r, rfl, ⟨_, SqL.of (s5 _ _ hr4)⟩, fun D3 nD3 => ?_⟩
        refine lcs_list (K := K) (a := r) (xs := nI (ready h shut)) (fun j => nI (((ready h shut).take j).filter fun k => onLine (outP h i) cs k)) nD3 (SqL.of (s5 _ _ hr4)) rfl (fun j hj => ?_) (fun j y H6 Zt Zf hj s6 zt zf => ?_) fun H6 s6 hD3 => ?_
        · have := filter_few (fun k => onLine (outP h i) cs k) (ready h shut) 24 j rl
          rw [nI_len, sizeLine_eq]
          omega
        · obtain ⟨k, hkk, rfl⟩ := nI_at hj
          refine ⟨rfl, _, rfl, _, rfl, by show 3 ≤ sizeLine; decide, fun p np => ?_⟩
          have s7 : Same H6 (upd H6 p (tupT (.li true i k))) := same_upd np
          refine ⟨_, rfl, d, _, rfl, DGet.t (k := keyOf (.li true i k)) (((s45.trans s6).trans s7) _ _ hd) upd_same, _, rfl, ?_⟩
          have e1 := flt_step (p := fun k => onLine (outP h i) cs k) hkk
          rw [held_some hk, look_out hh R hlk]
          cases hb : onLine (outP h i) cs k with
          | true =>
            rw [hb] at e1
            exact iteT ⟨_, rfl, zt _ _ s7 e1⟩
          | false =>
            rw [hb] at e1
            exact iteF (zf _ s7 (by rw [e1]; exact List.append_nil _))
        rw [take_all (l := ready h shut) (by rw [nI_len])] at hD3
        have lf : (((List.range i).filter fun r => es.any fun e => e / h.ends == r).map (cOut h cs shut)).length ≤ 12 := by
          rw [List.length_map]
          refine Nat.le_trans (List.length_filter_le _ _) ?_
          rw [List.length_range]
          omega
        refine ⟨D3, _, rfl, .inl (SqL.of hD3), g, _, _, rfl, rfl, s6 _ _ (s5 _ _ hg4), by rw [nI_len, sizeLine_eq]; omega, ?_⟩
        refine ⟨_, rfl, fun b u hu => ?_, ?_, ?_⟩
        · rw [upd_ne (ne_of_none hu Hg)]
          exact (s45.trans s6) b u hu
        · rw [upd_ne rg]
          exact s6 _ _ (s5 _ _ hr4)
        · rw [upd_same, st, nI_len]
          rfl
    · rintro σ H4 ⟨x9, rfl, s4, hr4, hg4⟩
      refine ⟨_, rfl, _, rfl, _, rfl, r, _, rfl, .inl (SqL.of hr4), by show 3 ≤ sizeLine; decide, fun p np => ?_⟩
      rw [nI_len]
      have s5 := same_upd (o := .tup [I (cIn h cs c shut), V.ref g, I (ready h shut).length]) np
      exact fin _ p g (s4.trans s5) upd_same (s5 _ _ hg4)
end
end Xr
set_option Elab.async false
set_option linter.all false
set_option maxRecDepth 100000
set_option maxHeartbeats 4000000
/-! The walks, 13: _law_least. -/
namespace Xr
open PySem PySem.Spec PyProof.Rows L2
theorem ExtN.seqT {K : PySem.W.Frag} {H H' : Hp} {a : Addr} {xs : List V} (e : LamX.ExtN H H') (h : SqT K H a xs) : SqT K H' a xs := by
  rcases h with (h | ⟨o, h⟩) | h
  · exact .inl (.inl (e _ _ h fun _ z => by cases z))
  · exact .inl (.inr ⟨o, e _ _ h fun _ z => by cases z⟩)
  · exact .inr h
theorem ExtN.calls {K : PySem.W.Frag} {H H' : Hp} {a : Addr} {ts : List (Addr × Cl)} (e : LamX.ExtN H H') (h : CallsAt K H a ts) : CallsAt K H' a ts :=
  ⟨ExtN.seq e h.at_, fun t ht => by
    obtain ⟨q, h1, h2⟩ := h.each t ht
    exact ⟨q, ExtN.seqT e h1, ExtN.seqT e h2⟩⟩
theorem ExtN.kept {H H' : Hp} {p : Addr} {qs : List Addr} {f : Nat → List Nat} (e : LamX.ExtN H H') (h : KeptAt H p qs f) : KeptAt H' p qs f :=
  ⟨e _ _ h.at_ (fun _ z => by cases z), fun j q hj => e _ _ (h.each j q hj) (fun _ z => by cases z)⟩
theorem KeptAt.same {H H' : Hp} {p : Addr} {qs : List Addr} {f : Nat → List Nat} (e : Same H H') (h : KeptAt H p qs f) : KeptAt H' p qs f := ⟨e _ _ h.at_, fun j q hj => e _ _ (h.each j q hj)⟩
/-- all shut -/
theorem ready_none {h : Hall} {shut : Nat} (hs : shut < 2 ^ h.amid) : ready h shut = [] ↔ shut = 2 ^ h.amid - 1 := by
  constructor
  · intro e
    refine Nat.eq_of_testBit_eq fun k => ?_
    rw [Nat.testBit_two_pow_sub_one]
    by_cases hk : k < h.amid
    · rw [decide_eq_true hk]
      cases hb : shut.testBit k with
      | true => rfl
      | false =>
        have : k ∈ ready h shut := mem_ready.mpr ⟨hk, hb⟩
        rw [e] at this
        cases this
    · rw [decide_eq_false hk]
      exact Nat.testBit_lt_two_pow (Nat.lt_of_lt_of_le hs (Nat.pow_le_pow_right (by decide) (by omega)))
  · intro e
    refine List.eq_nil_iff_forall_not_mem.mpr fun k hk => ?_
    obtain ⟨h1, h2⟩ := mem_ready.mp hk
    rw [e, Nat.testBit_two_pow_sub_one, decide_eq_true h1] at h2
    cases h2
/-- a slice of a list of calls -/
def cutT (ts : List (Addr × Cl)) (lo hi : Option Int) : List (Addr × Cl) := (ts.drop (HT.sIx ts.length 0 lo)).take (HT.sIx ts.length ts.length hi - HT.sIx ts.length 0 lo)
theorem cut_refs (ts : List (Addr × Cl)) (lo hi : Option Int) : cutV (refs ts) lo hi = refs (cutT ts lo hi) := by
  unfold cutV cutT
  rw [List.length_map]
  unfold refs
  rw [List.map_take, List.map_drop]
theorem cut_mem {ts : List (Addr × Cl)} {lo hi : Option Int} {t : Addr × Cl} (h : t ∈ cutT ts lo hi) : t ∈ ts := List.mem_of_mem_drop (List.mem_of_mem_take h)
theorem cut_len (ts : List (Addr × Cl)) (lo hi : Option Int) : (cutT ts lo hi).length ≤ ts.length := by
  unfold cutT
  rw [List.length_take, List.length_drop]
  omega
theorem cut_few (ts : List (Addr × Cl)) (m : Nat) : (cutT ts none (some (m : Int))).length ≤ m := by
  unfold cutT
  rw [List.length_take, HT.sIx_nat, HT.sIx_none]
  omega
theorem left_cls (ts : List (Addr × Cl)) (gone : List Nat) : cls (ts.filter fun t => !gone.contains t.2.c) = left (cls ts) gone := by
  unfold left cls
  rw [List.filter_map]
  rfl
theorem dp_lists {K : PySem.W.Frag} {H : Hp} {qs : List Addr} {g : Nat → List Nat} : ∀ l : List Nat, (∀ k, k ∈ l → H (qs.getD k 0) = some (.lst (nI (g k)))) → DpAll K H (l.map fun k => V.ref (qs.getD k 0)) (l.map fun k => PyData.list (dI (g k)))
  | [], _ => .nil
  | k :: l, h => .cons (.lst (SqL.of (h k List.mem_cons_self)) (dp_nI _)) (dp_lists l fun j hj => h j (List.mem_cons_of_mem _ hj))
theorem lay_lists (g : Nat → List Nat) : ∀ l : List Nat, PyData.canLayAll0 (l.map fun k => PyData.list (dI (g k))) = true
  | [] => by simp [PyData.canLayAll0]
  | k :: l => by
    rw [List.map_cons]
    simp only [PyData.canLayAll0, PyData.canLay0, lay_dI, lay_lists g l, Bool.and_self]
theorem dep_lists (g : Nat → List Nat) : ∀ l : List Nat, PyData.depthAll (l.map fun k => PyData.list (dI (g k))) ≤ 1
  | [] => by simp [PyData.depthAll]
  | k :: l => by
    have ih := dep_lists g l
    rw [List.map_cons]
    simp only [PyData.depthAll, PyData.depth, dep_dI]
    omega
theorem sh_lists (g : Nat → List Nat) (l : List Nat) : SeqAt.shaped (.list (l.map fun k => PyData.list (dI (g k)))) = true := sh_list (lay_lists g l) (Nat.le_trans (dep_lists g l) (by decide))
theorem any_lists {g : Nat → List Nat} {l : List Nat} {m : Nat} (h : m ∈ l) : ((l.map fun k => PyData.list (dI (g k))).any fun z => PyData.eqv z (.list (dI (g m)))) = true := by
  refine List.any_eq_true.mpr ⟨_, List.mem_map.mpr ⟨m, h, rfl⟩, ?_⟩
  rw [eqv_lI, decide_eq_true rfl]
theorem isEmpty_dI {l : List Nat} : (dI l).isEmpty = true ↔ l = [] := by rw [dI_empty, List.isEmpty_iff]
section
variable {P : Program} {w : World} {K : PySem.W.Frag} {mg : Str → Option Value} {base : Heap} {f : Addr} {fd : FuncData}
def spLleast (K : PySem.W.Frag) (tb : Addr) : Sp := fun vs H Q _ => ∃ (a b q fr kp e : Addr) (h : Hall) (ts : List (Addr × Cl)) (c : Nat) (es : List Nat) (shut n : Nat) (qs : List Addr), vs = [.ref a, .ref b, .ref q, .ref fr, .ref kp, I n] ∧ HallOk h ∧ SqT K H a (hallV h) ∧
  CallsAt K H b ts ∧ Right h (cls ts) ∧ ts.length ≤ 1000 ∧ SqT K H q [I c, .ref e, I shut] ∧ SqL K H e (nI es) ∧ EndsIn h es ∧ es.length ≤ 12 ∧ c < h.ins * h.cal ∧ shut < 2 ^ h.amid ∧
  SqL K H fr (nI (free h (cls ts) c es shut)) ∧ KeptAt H kp qs (kept h (cls ts) c es) ∧ qs.length = h.amid ∧ LamX.Tabs [(tb, lamQ)] H ∧ ∀ H', LamX.ExtN H H' → LamX.Tabs [(tb, lamQ)] H' → Q (.bl true) H'
theorem scLleast : FnScope ["_law_hall_here", "_law_calls", "_law_asked_here", "_law_free", "_law_kept", "_law_number_here", "_law_caller", "_law_ends_here", "_law_shut", "_law_fewest", "_law_ready", "_law_left_here", "_law_at", "_law_few", "_law_k", "_law_call", "_law_one"] ["_law_hall_here", "_law_calls", "_law_asked_here", "_law_free", "_law_kept", "_law_number_here"] (defScope sLleast) := ⟨rfl, rfl, rfl, by decide +kernel, rfl, by decide +kernel, by decide +kernel⟩
theorem ok_lleast {tb : Addr} (B : Bi mg) (F : FnP K "_law_least" sLleast [] f fd) (hE : Has P w K mg base "least_ended" 3 ["hall", "calls", "caller", "ends", "shut"] (spLeast K tb)) (hW : Has P w K mg base "ways" 3 ["hall", "calls", "caller", "ends", "shut"] (spWays K)) (hF : Has P w K mg base "_law_left" 1 ["_law_calls", "_law_gone"] (spLeft K)) :
    FnOk P w K mg base CX0 4 f fd ["_law_hall_here", "_law_calls", "_law_asked_here", "_law_free", "_law_kept", "_law_number_here"] (spLleast K tb) := by
  refine F.ok scLleast (fun vs H Q E h => ?_) (fun cdv A outer s H vs Q E hr h => ?_)
  · obtain ⟨a, b, q, fr, kp, e, h, ts, c, es, shut, n, qs, rfl, _⟩ := h
    rfl
  · obtain ⟨a, b, q, fr, kp, e, h, ts, c, es, shut, n, qs, rfl, hh, ha, hb, R, fewc, hq, he, hin, few, hc, hs, hfr, hkp, hql, hT, fin⟩ := h
    have hu := hu_of hr
    refine ⟨_, PSs.nox (pss_cons (ps_asg (pv 2) (pg_tup rfl (pgs_cons (pg_name (i := 6) scLleast.nd rfl (.inl rfl)) (pgs_cons (pg_name (i := 7) scLleast.nd rfl (.inl rfl)) (pgs_cons (pg_name (i := 8) scLleast.nd rfl (.inr rfl)) pgs_nil)))))
      (pss_cons (ps_set (i := 9) scLleast.nd rfl (.inr rfl) (pe_has hE hr (by decide) (pa_cons (pv 0) (pa_cons (pe_callTy call_list_of (by rfl) B.list (by decide +kernel) (pa_cons (pv 1) pa_nil)) (pa_cons (pv 6) (pa_cons (pe_callTy call_list_of (by rfl) B.list (by decide +kernel) (pa_cons (pv 7) pa_nil)) (pa_cons (pv 8) pa_nil)))))))
      (pss_cons (ps_if (pt_cmpR opn_eq (pv 8) (pe_op opn_sub (pe_op opn_shl1 pe_int (pe_ix ix_tup (pv 0) pe_int (fun _ _ => rfl))) pe_int) (nomark _)) (pss_one (ps_ret (pe_cmp (pc_isN (pv 9)) rfl))) pss_nil)
      (pss_cons (ps_if (PW.pt (pw_or (pt_not (pt_val (pe_callB call_isi (by rfl) B.isi (by decide +kernel) (pa_cons (pv 9) (pa_cons (pe_bltn (v := .ty "list") (by rfl) B.list (by decide +kernel) rfl) pa_nil)))))
          (pw_or1 (pt_cmpR op_ne (pe_cmpR (op_eqD hr.units) (pv 9) (pe_lst pa_nil) (nomark _)) (pe_cmpR (op_neD hr.units) (pv 3) (pe_lst pa_nil) (nomark _)) (nomark _))))) (pss_one (ps_ret pe_bl)) pss_nil)
      (pss_cons (ps_setLc (i := 10) (own := [("_law_k", 14)]) (g := gName 14) rfl scLleast.nd rfl rfl (sw_true rfl rfl rfl (by decide +kernel)) (pi_range1 (by rfl) B.range (pa_cons (pe_ix ix_tup (pv 0) pe_int (fun _ _ => rfl)) pa_nil))
          (blkOk_by (own := [("_law_k", 14)]) (N := ["_law_hall_here", "_law_calls", "_law_asked_here", "_law_free", "_law_kept", "_law_number_here", "_law_caller", "_law_ends_here", "_law_shut", "_law_fewest", "_law_ready", "_law_left_here", "_law_at", "_law_few", "_law_k", "_law_call", "_law_one"]) (sc := defScope sLleast) (by decide +kernel))
          (fun _ _ _ _ _ => pg_name (i := 14) scLleast.nd rfl (Or.inl rfl)) (fun _ _ _ _ _ => pts_one (pt_cmpR opn_eq (pe_op opn_and (pe_op opn_shr (pv 8) (pv 14)) pe_int) pe_int (by rfl))) (fun _ _ _ _ _ => pv 14))
      (pss_cons (ps_if (pt_cmpR (op_notInD (hu65 hr)) (pv 9) (pe_lc (own := [("_law_k", 14)]) (g := gName 14) rfl scLleast.nd (pi_list (pv 10))
          (blkOk_by (own := [("_law_k", 14)]) (N := ["_law_hall_here", "_law_calls", "_law_asked_here", "_law_free", "_law_kept", "_law_number_here", "_law_caller", "_law_ends_here", "_law_shut", "_law_fewest", "_law_ready", "_law_left_here", "_law_at", "_law_few", "_law_k", "_law_call", "_law_one"]) (sc := defScope sLleast) (by decide +kernel))
          (fun _ _ _ _ _ => pg_name (i := 14) scLleast.nd rfl (Or.inl rfl)) (fun _ _ _ _ _ => pts_nil) (fun _ _ _ _ _ => pe_ix (ixL K) (pv 4) (pv 14) (fun _ _ => rfl))) (by rfl)) (pss_one (ps_ret pe_bl)) pss_nil)
      (pss_cons (ps_set (i := 11) scLleast.nd rfl (.inl rfl) (pe_has hF hr (by decide) (pa_cons (pv 1) (pa_cons (pv 9) pa_nil))))
      (pss_cons (ps_if (pt_cmpR (op_eqD hr.units) (pe_has hW hr (by decide) (pa_cons (pv 0) (pa_cons (pv 11) (pa_cons (pv 6) (pa_cons (pv 7) (pa_cons (pv 8) pa_nil)))))) (pe_lst pa_nil) (nomark _)) (pss_one (ps_ret pe_bl)) pss_nil)
      (pss_cons (ps_if (pt_cmpR (op_eqD hr.units) (pv 9) (pe_lst pa_nil) (nomark _)) (pss_one (ps_ret pe_bl)) pss_nil)
      (pss_cons (ps_set (i := 12) scLleast.nd rfl (.inl rfl) (pe_op opn_mod (pe_op opn_mod (pe_op opn_mul (pv 5) pe_int) pe_int) (pe_callB (lenK K) (by rfl) B.len (by decide +kernel) (pa_cons (pv 1) pa_nil))))
      (pss_cons (ps_set (i := 13) scLleast.nd rfl (.inl rfl) (pe_slice sl_list (pe_op op_cat (pe_slice sl_list (pv 1) (po_some (pv 12)) po_none) (pe_slice sl_list (pv 1) po_none (po_some (pv 12)))) po_none
          (po_some (pe_op opn_sub (pe_callB (lenK K) (by rfl) B.len (by decide +kernel) (pa_cons (pv 9) pa_nil)) pe_int))))
      (pss_cons (ps_set (i := 11) scLleast.nd rfl (.inl rfl) (pe_has hF hr (by decide) (pa_cons (pv 1) (pa_cons (pe_lc (own := [("_law_call", 15)]) (g := gName 15) rfl scLleast.nd (pi_list (pv 13))
          (blkOk_by (own := [("_law_call", 15)]) (N := ["_law_hall_here", "_law_calls", "_law_asked_here", "_law_free", "_law_kept", "_law_number_here", "_law_caller", "_law_ends_here", "_law_shut", "_law_fewest", "_law_ready", "_law_left_here", "_law_at", "_law_few", "_law_k", "_law_call", "_law_one"]) (sc := defScope sLleast) (by decide +kernel))
          (fun _ _ _ _ _ => pg_name (i := 15) scLleast.nd rfl (Or.inl rfl)) (fun _ _ _ _ _ => pts_nil) (fun _ _ _ _ _ => pe_ix (ixT K) (pv 15) pe_int (fun _ _ => rfl))) pa_nil))))
      (pss_cons (ps_if (pt_cmpR (op_neD hr.units) (pe_has hW hr (by decide) (pa_cons (pv 0) (pa_cons (pv 11) (pa_cons (pv 6) (pa_cons (pv 7) (pa_cons (pv 8) pa_nil)))))) (pe_lst pa_nil) (nomark _)) (pss_one (ps_ret pe_bl)) pss_nil)
      (pss_cons (ps_setLc (i := 13) (own := [("_law_one", 16)]) (g := gName 16) rfl scLleast.nd rfl rfl (sw_true rfl rfl rfl (by decide +kernel)) (pi_list (pv 9))
          (blkOk_by (own := [("_law_one", 16)]) (N := ["_law_hall_here", "_law_calls", "_law_asked_here", "_law_free", "_law_kept", "_law_number_here", "_law_caller", "_law_ends_here", "_law_shut", "_law_fewest", "_law_ready", "_law_left_here", "_law_at", "_law_few", "_law_k", "_law_call", "_law_one"]) (sc := defScope sLleast) (by decide +kernel))
          (fun _ _ _ _ _ => pg_name (i := 16) scLleast.nd rfl (Or.inl rfl)) (fun _ _ _ _ _ => pts_one (pt_cmpR opn_ne (pv 16) (pe_ix (ixL K) (pv 9) (pe_op opn_mod (pv 5) (pe_callB (lenK K) (by rfl) B.len (by decide +kernel) (pa_cons (pv 9) pa_nil))) (fun _ _ => rfl)) (by rfl))) (fun _ _ _ _ _ => pv 16))
      (pss_cons (ps_set (i := 11) scLleast.nd rfl (.inl rfl) (pe_has hF hr (by decide) (pa_cons (pv 1) (pa_cons (pv 13) pa_nil))))
      (pss_one (ps_ret (pe_cmpR (op_eqD hr.units) (pe_has hW hr (by decide) (pa_cons (pv 0) (pa_cons (pv 11) (pa_cons (pv 6) (pa_cons (pv 7) (pa_cons (pv 8) pa_nil)))))) (pe_lst pa_nil) (nomark _))))))))))))))))))), ?_⟩
    have a2 := hh.a2
    have okT : ∀ t, t ∈ ts → ClOk h t.2 := fun t ht => R.ok _ (List.mem_map.mpr ⟨t, ht, rfl⟩)
    have rl : (ready h shut).length ≤ 24 := by
      have h1 := List.length_filter_le (fun k => !shut.testBit k) (List.range h.amid)
      rw [List.length_range] at h1
      show ((List.range h.amid).filter _).length ≤ 24
      omega
    have p1 := Nat.two_pow_pos h.amid
    -- for ways of what is left
    have wayr : ∀ (H5 : Hp) (l : Addr) (gone : List Nat), LamX.ExtN H H5 → H5 l = some (.lst (refs (ts.filter fun t => !gone.contains t.2.c))) →
        SqT K H5 a (hallV h) ∧ CallsAt K H5 l (ts.filter fun t => !gone.contains t.2.c) ∧ (∀ t, t ∈ (ts.filter fun t => !gone.contains t.2.c) → ClOk h t.2) ∧ SqA K H5 e (nI es) := fun H5 l gone eN hl => by
      have hb5 := ExtN.calls eN hb
      exact ⟨ExtN.seqT eN ha, ⟨SqL.of hl, fun t ht => hb5.each t (List.mem_filter.mp ht).1⟩, fun t ht => okT t (List.mem_filter.mp ht).1, .inl (ExtN.seq eN he)⟩
    have l64 : es.length < 64 := by omega
    refine ⟨_, rfl, q, _, rfl, hq, rfl, _, _, rfl, _, _, rfl, _, _, rfl, rfl, ?_⟩
    -- the least set
    refine ⟨_, rfl, _, rfl, b, _, rfl, .inl hb.at_, fun l1 n1 => ?_⟩
    have s1 := same_upd (o := .lst (refs ts)) n1
    refine ⟨_, rfl, _, rfl, e, _, rfl, .inl (Same.seq s1 he), fun l2 n2 => ?_⟩
    have s2' := same_upd (o := .lst (nI es)) n2
    have s2 := s1.trans s2'
    refine ⟨_, rfl, a, l1, l2, h, ts, c, es, shut, rfl, hh, Same.seqT s2 ha, ⟨SqL.of (s2' _ _ upd_same), fun t ht => (hb.each t ht).same s2⟩, okT, .inl (SqL.of upd_same), hin, by omega, fewc, hT.ext s2, fun hz H3 s3 => ?_, fun hz H3 p m eN' T3 Bst np hp => ?_⟩
    · have s23 := s2.trans s3
      refine ⟨_, rfl, _, rfl, a, _, 2, _, rfl, rfl, Same.seqT s23 ha, atI_nat (j := 2) rfl, h.amid, rfl, rfl, by omega, _, 1, rfl, rfl, p1, _, _, rfl, rfl, _, rfl, ?_⟩
      rw [decide_eq_true ((ready_none hs).1 hz)]
      refine iteT ⟨_, rfl, ?_⟩
      exact fin H3 (LamX.ExtN.of s23) (hT.ext s23)
    · have eN3 := (LamX.ExtN.of s2).trans eN'
      refine ⟨_, rfl, _, rfl, a, _, 2, _, rfl, rfl, ExtN.seqT eN3 ha, atI_nat (j := 2) rfl, h.amid, rfl, rfl, by omega, _, 1, rfl, rfl, p1, _, _, rfl, rfl, _, rfl, ?_⟩
      rw [decide_eq_false fun z => hz ((ready_none hs).2 z)]
      refine iteF ?_
      have hm : m ∈ ready h shut := mem_ready.mpr ⟨Bst.lt, Bst.op⟩
      have hem : (dI (kept h (cls ts) c es m)).isEmpty = !(dI (free h (cls ts) c es shut)).isEmpty := by
        rw [Bool.eq_iff_iff, isEmpty_dI, Bst.empty, Bool.not_eq_true', ← Bool.not_eq_true, isEmpty_dI]
      -- a list, empty as it should be
      refine ⟨_, rfl, _, _, _, _, _, rfl, .ty _, isi_LI (SqL.of hp), kit_ty k_ll, _, rfl, ?_⟩
      refine iteF ?_
      refine ⟨_, rfl, Nat.zero_le _, fun z4 nz4 => ?_⟩
      have s4 := same_upd (o := .lst []) nz4
      refine rEq_nil (SqL.of (s4 _ _ hp)) (SqL.of upd_same) (dp_nI _) (sh_dI _) ?_
      refine ⟨_, rfl, Nat.zero_le _, fun z5 nz5 => ?_⟩
      have s5' := same_upd (o := .lst []) nz5
      have s5 := s4.trans s5'
      refine rNe_nil (Same.seq s5 (ExtN.seq eN3 hfr)) (SqL.of upd_same) (dp_nI _) (sh_dI _) ?_
      rw [hem]
      refine ⟨rfl, _, rfl, ?_⟩
      rw [decide_eq_true rfl]
      refine iteF ?_
      have eN5 := eN3.trans (LamX.ExtN.of s5)
      have T5 := T3.ext s5
      have hp5 := s5 _ _ hp
      generalize upd (upd H3 z4 (.lst [])) z5 (.lst []) = H5 at s5 eN5 T5 hp5 ⊢
      -- ready
      refine ⟨_, rfl, a, _, 2, _, rfl, rfl, ExtN.seqT eN5 ha, atI_nat (j := 2) rfl, _, rfl, by omega, by omega, fun r nr => ?_⟩
      rw [Int.toNat_natCast]
      refine lcs_range (fun i => nI ((List.range i).filter fun k => !shut.testBit k)) nr rfl (fun i hi => ?_) (fun i H6 Zt Zf hi sm6 zt zf => ?_) fun H6 s6 hr0 => ?_
      · have h1 := List.length_filter_le (fun k => !shut.testBit k) (List.range i)
        rw [List.length_range] at h1
        rw [nI_len, sizeLine_eq]
        omega
      · refine ⟨rfl, _, rfl, _, rfl, _, _, rfl, rfl, _, 1, rfl, rfl, _, 0, rfl, rfl, _, rfl, ?_⟩
        rw [open_bit]
        have e1 := rdy_step shut i
        cases hbit : !shut.testBit i with
        | true =>
          rw [hbit] at e1
          exact iteT ⟨_, rfl, zt _ _ (Same.refl _) e1⟩
        | false =>
          rw [hbit] at e1
          exact iteF (zf _ (Same.refl _) (by rw [e1]; exact List.append_nil _))
      have hr6 : H6 r = some (.lst (nI (ready h shut))) := hr0
      -- among the open racks' holders
      have eN6 := eN5.trans (LamX.ExtN.of s6)
      have hk6 := ExtN.kept eN6 hkp
      refine ⟨_, rfl, _, rfl, r, rfl, ⟨_, SqL.of hr6⟩, fun D nD => ?_⟩
      have qat : ∀ k, k < h.amid → qs[k]? = some (qs.getD k 0) := fun k hk => by
        have ltk : k < qs.length := by rw [hql]; exact hk
        rw [List.getD_eq_getElem?_getD, List.getElem?_eq_getElem ltk]
        rfl
      refine lcs_list (K := K) (a := r) (xs := nI (ready h shut)) (fun i => ((ready h shut).take i).map fun k => V.ref (qs.getD k 0)) nD (SqL.of hr6) rfl (fun i hi => ?_) (fun j y H7 Zt Zf hj s7 zt zf => ?_) fun H7 s7 hD => ?_
      · rw [List.length_map, List.length_take, sizeLine_eq]
        have := Nat.min_le_right i (ready h shut).length
        omega
      · obtain ⟨k, hkk, rfl⟩ := nI_at hj
        have hkm := (mem_ready.mp (List.mem_of_getElem? hkk)).1
        refine ⟨rfl, _, rfl, _, rfl, kp, _, _, _, rfl, rfl, SqL.of (s7 _ _ hk6.at_), atI_nat (by rw [List.getElem?_map, qat k hkm]; rfl), zt _ _ (Same.refl _) ?_⟩
        rw [List.take_add_one, hkk, List.map_append]
        rfl
      rw [take_all (l := ready h shut) (by rw [nI_len])] at hD
      have s67 := s6.trans s7
      have hp7 := s67 _ _ hp5
      have hk7 : KeptAt H7 kp qs (kept h (cls ts) c es) := KeptAt.same s7 hk6
      refine ⟨.list (dI (kept h (cls ts) c es m)), (ready h shut).map fun k => PyData.list (dI (kept h (cls ts) c es k)), .lst (SqL.of hp7) (dp_nI _), .lst (SqL.of hD) (dp_lists _ fun k hk => hk7.each k _ (qat k (mem_ready.mp hk).1)), sh_dI _, sh_lists _ _, _, rfl, ?_⟩
      rw [any_lists hm]
      refine iteF ?_
      have eN7 := eN5.trans (LamX.ExtN.of s67)
      have T7 := T5.ext s67
      -- with it ended
      refine ⟨_, rfl, _, rfl, b, p, ts, kept h (cls ts) c es m, rfl, ExtN.calls eN7 hb, SqL.of hp7, fewc, fun H8 l s8 nl8 hl8 => ?_⟩
      have eN8 := eN7.trans (LamX.ExtN.of s8)
      obtain ⟨y1, y2, y3, y4⟩ := wayr H8 l _ eN8 hl8
      refine ⟨_, rfl, _, rfl, _, rfl, _, rfl, _, rfl, a, l, e, h, _, c, es, shut, rfl, hh, y1, y2, y3, y4, hin, l64, hc, fun H9 w9 s9 nw9 hw9 => ?_⟩
      rw [left_cls] at hw9
      refine ⟨Nat.zero_le _, fun z10 nz10 => ?_⟩
      have s10 := same_upd (o := .lst []) nz10
      refine rEq_nil (SqL.of (s10 _ _ hw9)) (SqL.of upd_same) (dp_nI _) (sh_dI _) ⟨_, rfl, ?_⟩
      have e9 : (dI (free h (left (cls ts) (kept h (cls ts) c es m)) c es shut)).isEmpty = false := by
        rw [← Bool.not_eq_true, isEmpty_dI]
        exact free_gone Bst.lt Bst.op
      rw [e9]
      refine iteF ?_
      have s810 := (s8.trans s9).trans s10
      have eN10 := eN7.trans (LamX.ExtN.of s810)
      have T10 := T7.ext s810
      have hp10 := s810 _ _ hp7
      generalize upd H9 z10 (.lst []) = H10 at s810 eN10 T10 hp10 ⊢
      -- empty?
      refine ⟨_, rfl, Nat.zero_le _, fun z11 nz11 => ?_⟩
      have s11 := same_upd (o := .lst []) nz11
      have eN11 := eN10.trans (LamX.ExtN.of s11)
      have T11 := T10.ext s11
      have hp11 := s11 _ _ hp10
      refine rEq_nil (SqL.of hp11) (SqL.of upd_same) (dp_nI _) (sh_dI _) ⟨_, rfl, ?_⟩
      refine ite2 (fun _ => fin _ eN11 T11) (fun hfull => ?_)
      rw [isEmpty_dI] at hfull
      generalize upd H10 z11 (.lst []) = H11 at s11 eN11 T11 hp11 ⊢
      -- fewer ended: some calls, one less than the holders
      have lenK1 : 1 ≤ (kept h (cls ts) c es m).length := by
        rcases Nat.eq_zero_or_pos (kept h (cls ts) c es m).length with z | z
        · exact absurd (List.length_eq_zero_iff.mp z) hfull
        · exact z
      have least : ∀ k, k < h.amid → shut.testBit k = false → (kept h (cls ts) c es m).length ≤ (kept h (cls ts) c es k).length := Bst.le
      have lts : 1 ≤ ts.length := by
        have h1 : (kept h (cls ts) c es m).length ≤ ts.length := by
          unfold kept
          rw [List.length_map]
          refine Nat.le_trans (List.length_filter_le _ _) ?_
          rw [List.length_map]
          exact Nat.le_refl _
        omega
      have hb11 := ExtN.calls eN11 hb
      refine ⟨_, rfl, _, 16807, rfl, rfl, by omega, _, 999907, rfl, rfl, by omega, _, rfl, b, _, rfl, .inl hb11.at_, _, _, rfl, rfl, by rw [List.length_map]; exact lts, ?_⟩
      rw [List.length_map]
      dsimp only
      generalize n * 16807 % 999907 % ts.length = at_
      -- the slices
      refine ⟨_, rfl, _, rfl, _, rfl, b, _, rfl, hb11.at_, fun u1 m1 => ?_⟩
      rw [cut_refs]
      have r1 := same_upd (o := .lst (refs (cutT ts (some (at_ : Int)) none))) m1
      have g1 : upd H11 u1 (.lst (refs (cutT ts (some (at_ : Int)) none))) u1 = some (.lst (refs (cutT ts (some (at_ : Int)) none))) := upd_same
      refine ⟨_, rfl, _, rfl, _, rfl, b, _, rfl, Same.seq r1 hb11.at_, fun u2 m2 => ?_⟩
      rw [cut_refs]
      have r2 := same_upd (o := .lst (refs (cutT ts none (some (at_ : Int))))) m2
      have lz := cut_len ts (some (at_ : Int)) none
      have lz2 := cut_len ts none (some (at_ : Int))
      refine ⟨u1, u2, _, _, rfl, rfl, r2 _ _ g1, upd_same, by rw [List.length_map, List.length_map, sizeLine_eq]; omega, fun u3 m3 => ?_⟩
      have e3 : refs (cutT ts (some (at_ : Int)) none) ++ refs (cutT ts none (some (at_ : Int))) = refs (cutT ts (some (at_ : Int)) none ++ cutT ts none (some (at_ : Int))) := (List.map_append ..).symm
      rw [e3]
      have usin : ∀ t, t ∈ cutT ts (some (at_ : Int)) none ++ cutT ts none (some (at_ : Int)) → t ∈ ts := fun t ht => by
        rcases List.mem_append.mp ht with ht | ht
        · exact cut_mem ht
        · exact cut_mem ht
      have r3 := same_upd (o := .lst (refs (cutT ts (some (at_ : Int)) none ++ cutT ts none (some (at_ : Int))))) m3
      have r13 := (r1.trans r2).trans r3
      have g3 : upd (upd (upd H11 u1 (.lst (refs (cutT ts (some (at_ : Int)) none)))) u2 (.lst (refs (cutT ts none (some (at_ : Int)))))) u3 (.lst (refs (cutT ts (some (at_ : Int)) none ++ cutT ts none (some (at_ : Int))))) u3 = some (.lst (refs (cutT ts (some (at_ : Int)) none ++ cutT ts none (some (at_ : Int))))) := upd_same
      generalize upd (upd (upd H11 u1 (.lst (refs (cutT ts (some (at_ : Int)) none)))) u2 (.lst (refs (cutT ts none (some (at_ : Int)))))) u3 (.lst (refs (cutT ts (some (at_ : Int)) none ++ cutT ts none (some (at_ : Int))))) = H12 at r13 g3 ⊢
      generalize cutT ts (some (at_ : Int)) none ++ cutT ts none (some (at_ : Int)) = us0 at usin g3 ⊢
      have hp12 := r13 _ _ hp11
      have eN12 := eN11.trans (LamX.ExtN.of r13)
      have T12 := T11.ext r13
      refine ⟨_, rfl, p, _, rfl, .inl (SqL.of hp12), _, 1, rfl, rfl, by rw [nI_len]; exact lenK1, _, rfl, u3, _, rfl, SqL.of g3, fun u4 m4 => ?_⟩
      rw [cut_refs, nI_len]
      have fewu := cut_few us0 ((kept h (cls ts) c es m).length - 1)
      have usin2 : ∀ t, t ∈ cutT us0 none (some (((kept h (cls ts) c es m).length - 1 : Nat) : Int)) → t ∈ ts := fun t ht => usin t (cut_mem ht)
      generalize cutT us0 none (some (((kept h (cls ts) c es m).length - 1 : Nat) : Int)) = us at fewu usin2 ⊢
      have s13 := same_upd (o := .lst (refs us)) m4
      have g4 : upd H12 u4 (.lst (refs us)) u4 = some (.lst (refs us)) := upd_same
      have hp13 := s13 _ _ hp12
      have eN13 := eN12.trans (LamX.ExtN.of s13)
      have T13 := T12.ext s13
      generalize upd H12 u4 (.lst (refs us)) = H13 at s13 g4 hp13 eN13 T13 ⊢
      -- their callers
      refine ⟨_, rfl, _, rfl, u4, rfl, ⟨_, SqL.of g4⟩, fun D2 nD2 => ?_⟩
      have lus : us.length ≤ 1000 := by
        have h1 : (kept h (cls ts) c es m).length ≤ 1000 := by
          unfold kept
          rw [List.length_map]
          refine Nat.le_trans (List.length_filter_le _ _) ?_
          rw [List.length_map]
          exact fewc
        omega
      refine lcs_list (K := K) (a := u4) (xs := refs us) (fun i => nI ((us.take i).map fun t => t.2.c)) nD2 (SqL.of g4) rfl (fun i hi => ?_) (fun j y H14 Zt Zf hj s14 zt zf => ?_) fun H14 s14 hD2 => ?_
      · rw [nI_len, List.length_map, List.length_take, sizeLine_eq]
        have := Nat.min_le_right i us.length
        omega
      · obtain ⟨t, ht, rfl⟩ := refs_at hj
        obtain ⟨q5, h1, h2⟩ := (ExtN.calls (eN13.trans (LamX.ExtN.of s14)) hb).each t (usin2 t (List.mem_of_getElem? ht))
        refine ⟨rfl, _, rfl, t.1, _, 0, _, rfl, rfl, h1, atI_nat (j := 0) rfl, zt _ _ (Same.refl _) ?_⟩
        rw [List.take_add_one, ht, List.map_append]
        unfold nI
        rw [List.map_append]
        rfl
      rw [take_all (l := us) (by rw [List.length_map])] at hD2
      have eN14 := eN13.trans (LamX.ExtN.of s14)
      refine ⟨b, D2, ts, us.map fun t => t.2.c, rfl, ExtN.calls eN14 hb, SqL.of hD2, fewc, fun H15 l2 s15 nl2 hl2 => ?_⟩
      have eN15 := eN14.trans (LamX.ExtN.of s15)
      obtain ⟨y1, y2, y3, y4⟩ := wayr H15 l2 _ eN15 hl2
      refine ⟨_, rfl, _, rfl, _, rfl, _, rfl, _, rfl, a, l2, e, h, _, c, es, shut, rfl, hh, y1, y2, y3, y4, hin, l64, hc, fun H16 w16 s16 nw16 hw16 => ?_⟩
      rw [left_cls] at hw16
      refine ⟨Nat.zero_le _, fun z17 nz17 => ?_⟩
      have s17 := same_upd (o := .lst []) nz17
      refine rNe_nil (SqL.of (s17 _ _ hw16)) (SqL.of upd_same) (dp_nI _) (sh_dI _) ⟨_, rfl, ?_⟩
      have e16 : (dI (free h (left (cls ts) (us.map fun t => t.2.c)) c es shut)).isEmpty = true := by
        rw [isEmpty_dI]
        refine free_few R (m := (kept h (cls ts) c es m).length) ?_ least
        rw [List.length_map]
        omega
      rw [e16]
      refine iteF ?_
      have s1317 := ((s14.trans s15).trans s16).trans s17
      have eN17 := eN13.trans (LamX.ExtN.of s1317)
      have T17 := T13.ext s1317
      have hp17 := s1317 _ _ hp13
      generalize upd H16 z17 (.lst []) = H17 at s1317 eN17 T17 hp17 ⊢
      -- fewer ended: all holders but one
      obtain ⟨x, hx⟩ : ∃ x, (kept h (cls ts) c es m)[n % (kept h (cls ts) c es m).length]? = some x := ⟨_, List.getElem?_eq_getElem (Nat.mod_lt _ lenK1)⟩
      have lk : (kept h (cls ts) c es m).length ≤ 1000 := by
        unfold kept
        rw [List.length_map]
        refine Nat.le_trans (List.length_filter_le _ _) ?_
        rw [List.length_map]
        exact fewc
      refine ⟨_, rfl, p, rfl, ⟨_, SqL.of hp17⟩, fun D3 nD3 => ?_⟩
      refine lcs_list (K := K) (a := p) (xs := nI (kept h (cls ts) c es m)) (fun i => nI (((kept h (cls ts) c es m).take i).filter fun v => !decide (v = x))) nD3 (SqL.of hp17) rfl (fun i hi => ?_) (fun j y H18 Zt Zf hj s18 zt zf => ?_) fun H18 s18 hD3 => ?_
      · have := filter_few (fun v => !decide (v = x)) (kept h (cls ts) c es m) 1000 i lk
        rw [nI_len, sizeLine_eq]
        omega
      · obtain ⟨v, hv, rfl⟩ := nI_at hj
        have hp18 := s18 _ _ hp17
        refine ⟨rfl, _, rfl, _, rfl, _, rfl, _, rfl, p, _, rfl, .inl (SqL.of hp18), _, _, rfl, rfl, by rw [nI_len]; exact lenK1, p, _, _, _, rfl, rfl, SqL.of hp18, atI_nat (by rw [nI_len]; exact nI_get hx), _, _, rfl, rfl, _, rfl, ?_⟩
        have e1 := flt_step (p := fun v => !decide (v = x)) hv
        cases hb2 : !decide (v = x) with
        | true =>
          rw [hb2] at e1
          exact iteT ⟨_, rfl, zt _ _ (Same.refl _) e1⟩
        | false =>
          rw [hb2] at e1
          exact iteF (zf _ (Same.refl _) (by rw [e1]; exact List.append_nil _))
      rw [take_all (l := kept h (cls ts) c es m) (by rw [nI_len])] at hD3
      have eN18 := eN17.trans (LamX.ExtN.of s18)
      have T18 := T17.ext s18
      refine ⟨_, rfl, _, rfl, b, D3, ts, _, rfl, ExtN.calls eN18 hb, SqL.of hD3, fewc, fun H19 l3 s19 nl3 hl3 => ?_⟩
      have eN19 := eN18.trans (LamX.ExtN.of s19)
      obtain ⟨y1, y2, y3, y4⟩ := wayr H19 l3 _ eN19 hl3
      refine ⟨_, rfl, _, rfl, _, rfl, _, rfl, _, rfl, a, l3, e, h, _, c, es, shut, rfl, hh, y1, y2, y3, y4, hin, l64, hc, fun H20 w20 s20 nw20 hw20 => ?_⟩
      rw [left_cls] at hw20
      refine ⟨Nat.zero_le _, fun z21 nz21 => ?_⟩
      have s21 := same_upd (o := .lst []) nz21
      refine rEq_nil (SqL.of (s21 _ _ hw20)) (SqL.of upd_same) (dp_nI _) (sh_dI _) ?_
      have e20 : (dI (free h (left (cls ts) ((kept h (cls ts) c es m).filter fun v => !decide (v = x))) c es shut)).isEmpty = true := by
        rw [isEmpty_dI]
        refine free_few R (m := (kept h (cls ts) c es m).length) ?_ least
        exact filter_len_lt (List.mem_of_getElem? hx) (by rw [decide_eq_true rfl]; rfl)
      rw [e20]
      have s1821 := (s19.trans s20).trans s21
      exact fin _ (eN18.trans (LamX.ExtN.of s1821)) (T18.ext s1821)
end
end Xr
set_option Elab.async false
set_option linter.all false
set_option maxRecDepth 100000
set_option maxHeartbeats 4000000
/-! The walks, 14: _law_asked. -/
namespace Xr
open PySem PySem.Spec PyProof.Rows L2
/-! ### the dict of held lines -/
structure Told (kvs : List (List Key × V)) (S : T → Nat → Prop) : Prop where
  got : ∀ t v, valV kvs (keyOf t) = some v → ∃ n : Nat, v = I n ∧ S t n
  all : ∀ t n, S t n → (valV kvs (keyOf t)).isSome = true
theorem Told.nil : Told [] fun _ _ => False := ⟨(fun t v e => by rw [valV_nil] at e; cases e), fun _ _ z => z.elim⟩
theorem Told.put {kvs : List (List Key × V)} {S : T → Nat → Prop} (d : Told kvs S) (u : T) (n : Nat) : Told (putK kvs (keyOf u) (I n)) fun t m => S t m ∨ (t = u ∧ m = n) := by
  constructor
  · intro t v e
    rw [valV_put] at e
    by_cases h : keyOf t = keyOf u
    · rw [if_pos h] at e
      exact ⟨n, (Option.some.inj e).symm, .inr ⟨keyOf_inj h, rfl⟩⟩
    · rw [if_neg h] at e
      obtain ⟨m, h1, h2⟩ := d.got t v e
      exact ⟨m, h1, .inl h2⟩
  · intro t m z
    rw [valV_put]
    by_cases h : keyOf t = keyOf u
    · rw [if_pos h]
      rfl
    · rw [if_neg h]
      rcases z with z | ⟨z, _⟩
      · exact d.all t m z
      · exact absurd (by rw [z]) h
theorem Told.congr {kvs : List (List Key × V)} {S S' : T → Nat → Prop} (d : Told kvs S) (h : ∀ t n, S t n ↔ S' t n) : Told kvs S' :=
  ⟨fun t v e => by
    obtain ⟨n, h1, h2⟩ := d.got t v e
    exact ⟨n, h1, (h t n).1 h2⟩, fun t n z => d.all t n ((h t n).2 z)⟩
def lookOf (kvs : List (List Key × V)) (t : T) : Option Nat := match valV kvs (keyOf t) with
  | some (.int i) => some i.toNat
  | _ => none
theorem pw_two {α : Type} {R : α → α → Prop} (sym : ∀ a b, R a b → R b a) : ∀ {l : List α}, l.Pairwise R → ∀ a b, a ∈ l → b ∈ l → a = b ∨ R a b
  | [], _, a, b, h, _ => by cases h
  | x :: l, p, a, b, ha, hb => by
    obtain ⟨p1, p2⟩ := List.pairwise_cons.mp p
    rcases List.mem_cons.mp ha with ea | ha2
    · rcases List.mem_cons.mp hb with eb | hb2
      · exact .inl (ea.trans eb.symm)
      · rw [ea]
        exact .inr (p1 b hb2)
    · rcases List.mem_cons.mp hb with eb | hb2
      · rw [eb]
        exact .inr (sym _ _ (p1 a ha2))
      · exact pw_two sym p2 a b ha2 hb2
theorem told_look {h : Hall} {cs : List Cl} (R : Right h cs) {kvs : List (List Key × V)} (d : Told kvs fun t n => ∃ d, d ∈ cs ∧ IsLine h d.c d.es d.k t ∧ n = d.c) : HeldIs kvs (lookOf kvs) ∧ Looks h cs (lookOf kvs) := by
  constructor
  · intro t
    unfold lookOf
    cases e : valV kvs (keyOf t) with
    | none => rfl
    | some v =>
      obtain ⟨n, rfl, _⟩ := d.got t v e
      show _ = some (I (Int.toNat (n : Int)))
      rw [Int.toNat_natCast]
  · intro t v
    unfold lookOf
    cases e : valV kvs (keyOf t) with
    | none =>
      constructor
      · intro z
        cases z
      · intro z
        have := d.all t v z
        rw [e] at this
        cases this
    | some w =>
      obtain ⟨n, rfl, d1, h1, h2, h3⟩ := d.got t w e
      show some (Int.toNat (n : Int)) = some v ↔ _
      rw [Int.toNat_natCast]
      constructor
      · intro z
        cases z
        exact ⟨d1, h1, h2, h3⟩
      · rintro ⟨d2, g1, g2, g3⟩
        rcases pw_two (fun a b z => Apart.symm z) R.ap d1 d2 h1 g1 with z | z
        · rw [h3, g3, z]
        · exact absurd g2 (z t h2)
theorem sum_zI : ∀ l : List Nat, (zI l).sum = (l.sum : Int)
  | [] => rfl
  | n :: l => by
    show (n : Int) + (zI l).sum = ((n + l.sum : Nat) : Int)
    rw [sum_zI l]
    omega
theorem alk_due {K : PySem.W.Frag} {H : Hp} {p p' g g' : Addr} {x y : Nat} {l : List Nat} (h1 : SqT K H p [I x, .ref g, I y]) (h2 : SqT K H p' [I x, .ref g', I y]) (h3 : SqL K H g (nI l)) (h4 : SqL K H g' (nI l)) (few : l.length ≤ 1000) : Alk K 2 H (.ref p) (.ref p') := by
  refine .inr ⟨p, p', [I x, .ref g, I y], [I x, .ref g', I y], rfl, rfl, rfl, by show 3 ≤ 1000; decide, .inr ⟨h1, h2⟩, fun i u v e1 e2 => ?_⟩
  rcases i with _ | _ | _ | i
  · cases e1
    cases e2
    exact .inl ⟨_, rfl, rfl⟩
  · cases e1
    cases e2
    exact alk_nI 0 h3 h4 few
  · cases e1
    cases e2
    exact .inl ⟨_, rfl, rfl⟩
  · simp at e1
section
variable {P : Program} {w : World} {K : PySem.W.Frag} {mg : Str → Option Value} {base : Heap} {f : Addr} {fd : FuncData}
def spAsked (K : PySem.W.Frag) (tb : Addr) : Sp := fun vs H Q _ => ∃ (a b : Addr) (h : Hall) (ts : List (Addr × Cl)) (n : Nat), vs = [.ref a, .ref b, I n] ∧ HallOk h ∧ SqT K H a (hallV h) ∧ CallsAt K H b ts ∧ Right h (cls ts) ∧ ts.length ≤ 1000 ∧
  LamX.Tabs [(tb, lamQ)] H ∧ ∀ H', LamX.ExtN H H' → LamX.Tabs [(tb, lamQ)] H' → Q (.bl true) H'
theorem scAsked : FnScope ["_law_hall_here", "_law_calls", "_law_number_here", "_law_held", "_law_call", "_law_line", "_law_caller", "_law_ends_here", "_law_shut", "_law_asked_here", "_law_handed", "_law_free", "_law_kept", "_law_due", "_law_found"] ["_law_hall_here", "_law_calls", "_law_number_here"] (defScope sAsked) := ⟨rfl, rfl, rfl, by decide +kernel, rfl, by decide +kernel, by decide +kernel⟩
theorem ok_asked {tb : Addr} (B : Bi mg) (F : FnP K "_law_asked" sAsked [] f fd) (hL : Has P w K mg base "_law_lines" 1 ["_law_hall_here", "_law_caller", "_law_ends_here", "_law_k"] (spLines K)) (hE : Has P w K mg base "_law_ends" 1 ["_law_hall_here", "_law_number_here"] (spEnds K))
    (hW : Has P w K mg base "ways" 3 ["hall", "calls", "caller", "ends", "shut"] (spWays K)) (hH : Has P w K mg base "holders" 2 ["hall", "calls", "caller", "ends"] (spHold K))
    (hWh : Has P w K mg base "_law_ways_held" 3 ["_law_hall_here", "_law_held", "_law_asked_here", "_law_free", "_law_kept"] (spWheld K)) (hCd : Has P w K mg base "_law_counted" 1 ["_law_hall_here", "_law_held", "_law_asked_here"] (spCounted K))
    (hC : Has P w K mg base "count_of" 3 ["hall", "calls", "caller", "ends", "shut"] (spCount K)) (hA : Has P w K mg base "_law_alike" 3 ["_law_found", "_law_due"] (spAlike K 2))
    (hLl : Has P w K mg base "_law_least" 4 ["_law_hall_here", "_law_calls", "_law_asked_here", "_law_free", "_law_kept", "_law_number_here"] (spLleast K tb)) :
    FnOk P w K mg base CX0 5 f fd ["_law_hall_here", "_law_calls", "_law_number_here"] (spAsked K tb) := by
  refine F.ok scAsked (fun vs H Q E h => ?_) (fun cdv A outer s H vs Q E hr h => ?_)
  · obtain ⟨a, b, h, ts, n, rfl, _⟩ := h
    rfl
  · obtain ⟨a, b, h, ts, n, rfl, hh, ha, hb, R, fewc, hT, fin⟩ := h
    have hu := hu_of hr
    refine ⟨_, PSs.nox (pss_cons (ps_set (i := 3) scAsked.nd rfl (.inl rfl) pe_dnewT)
      (pss_cons (ps_for PassesOwn.never rfl (pi_list (pv 1)) (pg_name (i := 4) scAsked.nd rfl (.inl rfl))
        (pss_one (ps_for PassesOwn.never rfl (pi_list (pe_has hL hr (by decide) (pa_cons (pv 0) (pa_cons (pe_ix ix_tup (pv 4) pe_int (fun _ _ => rfl)) (pa_cons (pe_ix ix_tup (pv 4) pe_int (fun _ _ => rfl)) (pa_cons (pe_ix ix_tup (pv 4) pe_int (fun _ _ => rfl)) pa_nil)))))) (pg_name (i := 5) scAsked.nd rfl (.inl rfl))
          (pss_one (ps_dput hu (pv 3) (pv 5) (pe_ix ix_tup (pv 4) pe_int (fun _ _ => rfl)) rfl)))))
      (pss_cons (ps_set (i := 6) scAsked.nd rfl (.inl rfl) (pe_op opn_mod (pe_op opn_mod (pe_op opn_mul (pv 2) pe_int) pe_int) (pe_op opn_mul (pe_ix ix_tup (pv 0) pe_int (fun _ _ => rfl)) (pe_ix ix_tup (pv 0) pe_int (fun _ _ => rfl)))))
      (pss_cons (ps_set (i := 7) scAsked.nd rfl (.inl rfl) (pe_has hE hr (by decide) (pa_cons (pv 0) (pa_cons (pe_op opn_add (pe_op opn_mul (pv 2) pe_int) pe_int) pa_nil))))
      (pss_cons (ps_set (i := 8) scAsked.nd rfl (.inl rfl) pe_int)
      (Evl.pss_cut (ps_if (pt_cmpR opn_eq (pe_op opn_mod (pe_op opn_mod (pe_op opn_mul (pv 2) pe_int) pe_int) pe_int) pe_int (nomark _))
        (pss_one (ps_set (i := 8) scAsked.nd rfl (.inl rfl) (pe_op opn_mod (pe_op opn_mod (pe_op opn_mul (pv 2) pe_int) pe_int) (pe_op opn_shl1 pe_int (pe_ix ix_tup (pv 0) pe_int (fun _ _ => rfl)))))) pss_nil)
      (pss_cons (ps_set (i := 9) scAsked.nd rfl (.inl rfl) (pe_tup (pa_cons (pv 6) (pa_cons (pv 7) (pa_cons (pv 8) pa_nil)))))
      (pss_cons (ps_set (i := 10) scAsked.nd rfl (.inl rfl) (pe_callTy call_list_of (by rfl) B.list (by decide +kernel) (pa_cons (pv 1) pa_nil)))
      (pss_cons (ps_set (i := 11) scAsked.nd rfl (.inl rfl) (pe_has hW hr (by decide) (pa_cons (pv 0) (pa_cons (pv 10) (pa_cons (pv 6) (pa_cons (pe_callTy call_list_of (by rfl) B.list (by decide +kernel) (pa_cons (pv 7) pa_nil)) (pa_cons (pv 8) pa_nil)))))))
      (pss_cons (ps_set (i := 12) scAsked.nd rfl (.inl rfl) (pe_has hH hr (by decide) (pa_cons (pv 0) (pa_cons (pv 10) (pa_cons (pv 6) (pa_cons (pe_callTy call_tuple_of (by rfl) B.tuple (by decide +kernel) (pa_cons (pv 7) pa_nil)) pa_nil))))))
      (pss_cons (ps_if (pt_not (pt_val (pe_has hWh hr (by decide) (pa_cons (pv 0) (pa_cons (pv 3) (pa_cons (pv 9) (pa_cons (pv 11) (pa_cons (pv 12) pa_nil)))))))) (pss_one (ps_ret pe_bl)) pss_nil)
      (pss_cons (ps_set (i := 13) scAsked.nd rfl (.inl rfl) (pe_has hCd hr (by decide) (pa_cons (pv 0) (pa_cons (pv 3) (pa_cons (pv 9) pa_nil)))))
      (pss_cons (ps_set (i := 14) scAsked.nd rfl (.inl rfl) (pe_has hC hr (by decide) (pa_cons (pv 0) (pa_cons (pv 10) (pa_cons (pv 6) (pa_cons (pv 7) (pa_cons (pv 8) pa_nil)))))))
      (pss_cons (ps_if (PW.pt (pw_or (pt_not (pt_val (pe_has hA hr (by decide) (pa_cons (pv 14) (pa_cons (pv 13) pa_nil))))) (pw_or1 (pt_cmpR (op_neD hr.units) (pv 10) (pv 1) (nomark _))))) (pss_one (ps_ret pe_bl)) pss_nil)
      (pss_cons (ps_if (PW.pt (pw_and (pt_cmpR opn_lt (pe_op opn_add (pe_ix ix_tup (pv 13) pe_int (fun _ _ => rfl)) (pe_callB (cr_sum rfl) (by rfl) B.sum (by decide +kernel) (pa_cons (pe_ix ix_tup (pv 13) pe_int (fun _ _ => rfl)) pa_nil))) (pe_ix ix_tup (pv 13) pe_int (fun _ _ => rfl)) (nomark _))
          (pw_and1 (pt_cmpR (op_eqD hr.units) (pv 11) (pe_lst pa_nil) (nomark _))))) (pss_one (ps_ret pe_bl)) pss_nil)
      (pss_one (ps_ret (pe_has hLl hr (by decide) (pa_cons (pv 0) (pa_cons (pv 1) (pa_cons (pv 9) (pa_cons (pv 11) (pa_cons (pv 12) (pa_cons (pv 2) pa_nil)))))))))))))))))))))))), ?_⟩
    have okT : ∀ t, t ∈ ts → ClOk h t.2 := fun t ht => R.ok _ (List.mem_map.mpr ⟨t, ht, rfl⟩)
    intro o no
    have put : ∀ {H1 : Hp} {v : HO}, Same H H1 → Same H (upd H1 o v) := fun {H1 v} s b u hu => by
      rw [upd_ne (ne_of_none hu no)]
      exact s b u hu
    refine ⟨_, rfl, b, rfl, ⟨_, (hb.same (same_upd no)).at_⟩, ?_⟩
    refine for_list (K := K) (a := b) (xs := refs ts) (fun i σ H' => ∃ (kvs : List (List Key × V)) (x4 x5 : Option V), σ = [some (.ref a), some (.ref b), some (I n), some (.ref o), x4, x5, none, none, none, none, none, none, none, none, none] ∧ Same H H' ∧ H' o = some (.dT kvs) ∧
        Told kvs (fun t v => ∃ d, d ∈ cls (ts.take i) ∧ IsLine h d.c d.es d.k t ∧ v = d.c) ∧ kvs.length ≤ 13 * i)
      ⟨[], none, none, rfl, same_upd no, upd_same, Told.nil.congr fun t v => ⟨False.elim, fun ⟨d, hd, _⟩ => by cases hd⟩, Nat.le_refl _⟩ (fun i σ H' _ ⟨_, _, _, _, sm, _⟩ => (hb.same sm).at_) ?_ ?_
    · rintro i x σ H' hi ⟨kvs, x4, x5, rfl, sm, ho, hd, hl⟩
      obtain ⟨t, ht, rfl⟩ := refs_at hi
      have hm : t ∈ ts := List.mem_of_getElem? ht
      obtain ⟨e, h1, h2⟩ := hb.each t hm
      have ok := okT t hm
      have ilt := (List.getElem?_eq_some_iff.mp ht).1
      have fewe := ok.few
      have h1' := Same.seqT sm h1
      refine ⟨_, rfl, _, rfl, t.1, _, 0, _, rfl, rfl, h1', atI_nat (j := 0) rfl, _, rfl, t.1, _, 1, _, rfl, rfl, h1', atI_nat (j := 1) rfl, _, rfl, t.1, _, 2, _, rfl, rfl, h1', atI_nat (j := 2) rfl, a, e, h, t.2.c, t.2.es, t.2.k, rfl, hh, Same.seqT sm ha, .inr (Same.seqT sm h2), fewe, fun H3 p3 ls sm3' np3 hp3 hls hmem hlen => ?_⟩
      have sm3 := sm.trans sm3'
      have nop : p3 ≠ o := fun z => by rw [z, ho] at np3; cases np3
      refine ⟨p3, rfl, ⟨_, SqL.of hp3⟩, ?_⟩
      refine for_list (K := K) (a := p3) (xs := refT ls) (fun j σ H' => ∃ (kvs' : List (List Key × V)) (x5 : Option V), σ = [some (.ref a), some (.ref b), some (I n), some (.ref o), some (.ref t.1), x5, none, none, none, none, none, none, none, none, none] ∧ Same H H' ∧ H' p3 = some (.lst (refT ls)) ∧ EachT H' ls ∧ H' o = some (.dT kvs') ∧
          Told kvs' (fun u v => (∃ d, d ∈ cls (ts.take i) ∧ IsLine h d.c d.es d.k u ∧ v = d.c) ∨ (u ∈ tof (ls.take j) ∧ v = t.2.c)) ∧ kvs'.length ≤ 13 * i + j)
        ⟨_, x5, rfl, sm3, hp3, hls, sm3' _ _ ho, hd.congr fun u v => ⟨.inl, fun z => z.elim id fun z => by cases z.1⟩, by omega⟩ (fun j σ H' _ ⟨_, _, _, _, hp, _⟩ => SqL.of hp) ?_ ?_
      · rintro j y σ H4 hj ⟨kvs4, x5', rfl, sm4, hp4, hls4, ho4, hd4, hl4⟩
        obtain ⟨u, hu', rfl⟩ := refT_at hj
        have jlt := (List.getElem?_eq_some_iff.mp hu').1
        have hux := hls4 u (List.mem_of_getElem? hu')
        have hl5 := length_putK kvs4 (keyOf u.2) (I t.2.c)
        refine ⟨_, rfl, t.1, _, 0, _, rfl, rfl, Same.seqT sm4 h1, atI_nat (j := 0) rfl, _, rfl, _, rfl, o, _, rfl, DPut.t (k := keyOf u.2) ho4 hux (by rw [sizeLine_eq]; omega), ?_⟩
        refine ⟨_, _, rfl, put sm4, by rw [upd_ne nop]; exact hp4, fun x hx => ?_, upd_same, (hd4.put u.2 t.2.c).congr fun v m => ?_, by omega⟩
        · rw [upd_ne (ne_of (hls4 x hx) ho4 (by intro z; cases z))]
          exact hls4 x hx
        · have e1 : v ∈ tof (ls.take (j + 1)) ↔ v ∈ tof (ls.take j) ∨ v = u.2 := by
            show v ∈ List.map _ _ ↔ _
            rw [List.take_add_one, hu', List.map_append, List.mem_append]
            exact or_congr_right List.mem_singleton
          rw [e1, or_assoc]
          refine or_congr_right ?_
          constructor
          · rintro (⟨z1, z2⟩ | ⟨z1, z2⟩)
            · exact ⟨.inl z1, z2⟩
            · exact ⟨.inr z1, z2⟩
          · rintro ⟨z1 | z1, z2⟩
            · exact .inl ⟨z1, z2⟩
            · exact .inr ⟨z1, z2⟩
      · rintro σ H4 ⟨kvs4, x5', rfl, sm4, hp4, hls4, ho4, hd4, hl4⟩
        rw [List.length_map] at hl4
        rw [take_all (l := ls) (by rw [List.length_map])] at hd4
        refine ⟨kvs4, _, _, rfl, sm4, ho4, hd4.congr fun u v => ?_, by omega⟩
        constructor
        · rintro (⟨d, hd, z⟩ | ⟨z1, z2⟩)
          · exact ⟨d, (mem_cls_succ ht d).2 (.inl hd), z⟩
          · exact ⟨t.2, (mem_cls_succ ht _).2 (.inr rfl), (hmem u).1 z1, z2⟩
        · rintro ⟨d, hd, z1, z2⟩
          rcases (mem_cls_succ ht d).1 hd with hd | hd
          · exact .inl ⟨d, hd, z1, z2⟩
          · subst hd
            exact .inr ⟨(hmem u).2 z1, z2⟩
    · rintro σ H1 ⟨kvs, x4, x5, rfl, s1, ho, hd, hl⟩
      rw [take_all (l := ts) (by rw [List.length_map])] at hd
      obtain ⟨hk, hlk⟩ := told_look R hd
      generalize lookOf kvs = look at hk hlk
      have a2 := hh.a2
      have i1 := hh.i1
      have i2 := hh.i2
      have c1 := hh.c1
      have c2 := hh.c2
      have pm : 1 ≤ h.ins * h.cal := Nat.mul_le_mul i1 c1
      have pm2 : h.ins * h.cal ≤ 12 * 12 := Nat.mul_le_mul i2 c2
      have ha1 := Same.seqT s1 ha
      -- the caller
      refine ⟨_, rfl, _, 39373, rfl, rfl, by omega, _, 999953, rfl, rfl, by omega, _, rfl, a, _, 0, _, rfl, rfl, ha1, atI_nat (j := 0) rfl, _, rfl, a, _, 1, _, rfl, rfl, ha1, atI_nat (j := 1) rfl, _, _, rfl, rfl, by omega, _, _, rfl, rfl, pm, ?_⟩
      dsimp only
      generalize hcd : n * 39373 % 999953 % (h.ins * h.cal) = c
      have hc : c < h.ins * h.cal := by rw [← hcd]; exact Nat.mod_lt _ pm
      -- the ends
      refine ⟨_, rfl, _, rfl, _, 7, rfl, rfl, by omega, _, 1, rfl, rfl, a, h, _, rfl, hh, ha1, fun H2 e es s2' ne he0 hin few => ?_⟩
      have s2 := s1.trans s2'
      have ho2 := s2' _ _ ho
      -- the shut ones
      refine ⟨fun σ H' => ∃ shut : Nat, shut < 2 ^ h.amid ∧ σ = [some (.ref a), some (.ref b), some (I n), some (.ref o), x4, x5, some (I c), some (.ref e), some (I shut), none, none, none, none, none, none] ∧ H' = H2, ?_, ?_⟩
      · refine ⟨_, rfl, _, 62089911, rfl, rfl, by omega, _, 999931, rfl, rfl, by omega, _, 2, rfl, rfl, by omega, _, 1, rfl, rfl, _, rfl, ?_⟩
        refine ite2 (fun _ => ?_) (fun _ => ?_)
        · have p1 := Nat.two_pow_pos h.amid
          refine ⟨_, rfl, _, 742938285, rfl, rfl, by omega, _, 16777213, rfl, rfl, by omega, _, rfl, a, _, 2, _, rfl, rfl, Same.seqT s2 ha, atI_nat (j := 2) rfl, h.amid, rfl, rfl, by omega, _, _, rfl, rfl, p1, ?_⟩
          exact ⟨_, Nat.mod_lt _ p1, rfl, rfl⟩
        · exact ⟨0, Nat.two_pow_pos _, rfl, rfl⟩
      · rintro σ H3 ⟨shut, hs, rfl, rfl⟩
        have lcl : (cls ts).length ≤ 1000 := by rw [List.length_map]; exact fewc
        have l64 : es.length < 64 := by omega
        refine ⟨_, rfl, _, rfl, _, rfl, by show 3 ≤ sizeLine; decide, fun q nq => ?_⟩
        have s4 := same_upd (o := .tup [I c, V.ref e, I shut]) nq
        have hq4 : upd H3 q (.tup [I c, V.ref e, I shut]) q = some (.tup [I c, V.ref e, I shut]) := upd_same
        refine ⟨_, rfl, b, _, rfl, .inl ((hb.same (s2.trans s4)).at_), fun hd_ nhd => ?_⟩
        have s5 := same_upd (o := .lst (refs ts)) nhd
        have hh5 : upd (upd H3 q (.tup [I c, V.ref e, I shut])) hd_ (.lst (refs ts)) hd_ = some (.lst (refs ts)) := upd_same
        have hq5 := s5 _ _ hq4
        have he5 := (s4.trans s5) _ _ he0
        have ho5 := (s4.trans s5) _ _ ho2
        have s05 := s2.trans (s4.trans s5)
        generalize upd (upd H3 q (.tup [I c, V.ref e, I shut])) hd_ (.lst (refs ts)) = H5 at hh5 hq5 he5 ho5 s05 ⊢
        -- the ways
        refine ⟨_, rfl, _, rfl, _, rfl, _, rfl, e, _, rfl, .inl (SqL.of he5), fun l1 m1 => ?_⟩
        have s6 := same_upd (o := .lst (nI es)) m1
        refine ⟨_, rfl, a, hd_, l1, h, ts, c, es, shut, rfl, hh, Same.seqT (s05.trans s6) ha, ⟨SqL.of (s6 _ _ hh5), fun t ht => (hb.each t ht).same (s05.trans s6)⟩, okT, .inl (SqL.of upd_same), hin, l64, hc, fun H7 fr s7 nfr hfr => ?_⟩
        have s07 := (s05.trans s6).trans s7
        have s57 := s6.trans s7
        -- the holders
        refine ⟨_, rfl, _, rfl, _, rfl, _, rfl, e, _, rfl, .inl ⟨SqL.of (s57 _ _ he5), fun t1 nt1 => ?_⟩⟩
        have s8 := same_upd (o := .tup (nI es)) nt1
        refine ⟨a, hd_, t1, h, ts, c, es, rfl, hh, Same.seqT (s07.trans s8) ha, ⟨SqL.of (s8 _ _ (s57 _ _ hh5)), fun t ht => (hb.each t ht).same (s07.trans s8)⟩, okT, .inr (SqT.of upd_same), hin, l64, fewc, fun H9 kp qs s9 nkp hql hqn hkp => ?_⟩
        have s09 := (s07.trans s8).trans s9
        have s79 := s8.trans s9
        have s59 := s57.trans s79
        -- they are right
        refine ⟨_, rfl, _, rfl, _, rfl, _, rfl, _, rfl, a, o, q, fr, kp, e, h, cls ts, c, es, shut, qs, kvs, look, rfl, hh, Same.seqT s09 ha, s59 _ _ ho5, hk, hlk, R, SqT.of (s59 _ _ hq5), .inl (SqL.of (s59 _ _ he5)), hin, few, lcl, SqL.of (s79 _ _ hfr), hkp, hql, fun H10 s10 => ?_⟩
        refine ⟨_, rfl, ?_⟩
        refine iteF ?_
        have s510 := s59.trans s10
        have s010 := s09.trans s10
        -- the count
        refine ⟨_, rfl, _, rfl, _, rfl, a, o, q, e, h, cls ts, c, es, shut, kvs, look, rfl, hh, Same.seqT s010 ha, s510 _ _ ho5, hk, hlk, R, SqT.of (s510 _ _ hq5), SqL.of (s510 _ _ he5), hin, few, fun H11 due g s11 hdue hg => ?_⟩
        have s511 := s510.trans s11
        have s011 := s010.trans s11
        refine ⟨_, rfl, _, rfl, _, rfl, _, rfl, _, rfl, a, hd_, e, h, ts, c, es, shut, rfl, hh, Same.seqT s011 ha, ⟨SqL.of (s511 _ _ hh5), fun t ht => (hb.each t ht).same s011⟩, okT, .inl (SqL.of (s511 _ _ he5)), hin, l64, hc, hs, fun H12 fo g2 s12 hfo hg2 => ?_⟩
        have s512 := s511.trans s12
        have s012 := s011.trans s12
        have lr : ((racksOf h es).map (cOut h (cls ts) shut)).length ≤ 1000 := by
          rw [List.length_map]
          exact Nat.le_trans (racks_len hh es) (by decide)
        refine ⟨_, rfl, _, rfl, _, _, rfl, alk_due (SqT.of hfo) (SqT.of (s12 _ _ hdue)) (SqL.of hg2) (SqL.of (s12 _ _ hg)) lr, _, rfl, ?_⟩
        refine iteF ?_
        have each12 : ∀ t, t ∈ ts → ClAt K H12 t.1 t.2 := fun t ht => (hb.each t ht).same s012
        refine ⟨_, rfl, _, rfl, .list ((cls ts).map dC), .list ((cls ts).map dC), .lst (SqL.of (s512 _ _ hh5)) (dp_Cs ts each12), .lst ((hb.same s012).at_) (dp_Cs ts each12), sh_Cs _, sh_Cs _, _, rfl, ?_⟩
        rw [eqv_Cs]
        refine iteF ?_
        -- enough lines idle: a way
        have hdue12 := s12 _ _ hdue
        have hg12 := s12 _ _ hg
        have hfr12 := ((s79.trans s10).trans (s11.trans s12)) _ _ hfr
        have hkp12 : KeptAt H12 kp qs (kept h (cls ts) c es) := KeptAt.same (s10.trans (s11.trans s12)) hkp
        have pack : ∀ H13, Same H12 H13 → SqT K H13 a (hallV h) ∧ CallsAt K H13 b ts ∧ SqT K H13 q [I c, .ref e, I shut] ∧ SqL K H13 e (nI es) ∧ SqL K H13 fr (nI (free h (cls ts) c es shut)) ∧ KeptAt H13 kp qs (kept h (cls ts) c es) ∧ LamX.Tabs [(tb, lamQ)] H13 ∧
            ∀ H', LamX.ExtN H13 H' → LamX.Tabs [(tb, lamQ)] H' → Q (.bl true) H' := fun H13 s13 =>
          ⟨Same.seqT (s012.trans s13) ha, hb.same (s012.trans s13), SqT.of ((s512.trans s13) _ _ hq5), SqL.of ((s512.trans s13) _ _ he5), SqL.of (s13 _ _ hfr12), KeptAt.same s13 hkp12, hT.ext (s012.trans s13), fun H' eN T => fin H' ((LamX.ExtN.of (s012.trans s13)).trans eN) T⟩
        refine ⟨_, rfl, due, _, 0, _, rfl, rfl, SqT.of hdue12, atI_nat (j := 0) rfl, _, rfl, due, _, 1, _, rfl, rfl, SqT.of hdue12, atI_nat (j := 1) rfl, g, zI ((racksOf h es).map (cOut h (cls ts) shut)), rfl, by rw [← nI_int]; exact SqL.of hg12, _, _, rfl, congrArg V.int (sum_zI _),
          _, rfl, due, _, 2, _, rfl, rfl, SqT.of hdue12, atI_nat (j := 2) rfl, _, _, rfl, rfl, _, rfl, ?_⟩
        refine ite2 (fun hlt => ?_) (fun _ => ?_)
        · refine ⟨_, rfl, Nat.zero_le _, fun z nz => ?_⟩
          have s13 := same_upd (o := .lst []) nz
          refine rEq_nil (SqL.of (s13 _ _ hfr12)) (SqL.of upd_same) (dp_nI _) (sh_dI _) ⟨_, rfl, ?_⟩
          have e13 : (dI (free h (cls ts) c es shut)).isEmpty = false := by
            rw [← Bool.not_eq_true, isEmpty_dI]
            intro z
            have h1 := count_way z
            have h2 := of_decide_eq_true hlt
            omega
          rw [e13]
          refine iteF ?_
          obtain ⟨y1, y2, y3, y4, y5, y6, y7, y8⟩ := pack _ s13
          exact ⟨_, rfl, _, rfl, _, rfl, _, rfl, _, rfl, _, rfl, a, b, q, fr, kp, e, h, ts, c, es, shut, n, qs, rfl, hh, y1, y2, R, fewc, y3, y4, hin, few, hc, hs, y5, y6, hql, y7, y8⟩
        · refine iteF ?_
          obtain ⟨y1, y2, y3, y4, y5, y6, y7, y8⟩ := pack _ (Same.refl _)
          exact ⟨_, rfl, _, rfl, _, rfl, _, rfl, _, rfl, _, rfl, a, b, q, fr, kp, e, h, ts, c, es, shut, n, qs, rfl, hh, y1, y2, R, fewc, y3, y4, hin, few, hc, hs, y5, y6, hql, y7, y8⟩
end
end Xr
set_option Elab.async false
set_option linter.all false
set_option maxRecDepth 100000
set_option maxHeartbeats 4000000
/-! The walks, 15: law. -/
namespace Xr
open PySem PySem.Spec PyProof.Rows L2
section
variable {P : Program} {w : World} {K : PySem.W.Frag} {mg : Str → Option Value} {base : Heap} {f : Addr} {fd : FuncData}
def spLaw (K : PySem.W.Frag) (tb : Addr) : Sp := fun vs H Q _ => ∃ (a : Addr) (ns : List Int), vs = [.ref a] ∧ SqL K H a (ns.map V.int) ∧ ns.length ≤ 63 ∧ LamX.Tabs [(tb, lamQ)] H ∧ ∀ H', Q (.bl true) H'
theorem scLaw : FnScope ["_law_script", "_law_hall_here", "_law_calls", "_law_at", "_law_number_here", "_law_call", "_law_gone", "_law_asked_here", "_law_one"] ["_law_script"] (defScope sLaw) := ⟨rfl, rfl, rfl, by decide +kernel, rfl, by decide +kernel, by decide +kernel⟩
theorem ok_law {tb : Addr} (B : Bi mg) (F : FnP K "law" sLaw [] f fd) (hHl : Has P w K mg base "_law_hall" 2 ["_law_script"] (spHall K)) (hN : Has P w K mg base "_law_number" 1 ["_law_cell", "_law_at"] spNumber)
    (hTr : Has P w K mg base "_law_try" 2 ["_law_hall_here", "_law_taken_here", "_law_number_here"] (spTry K)) (hTk : Has P w K mg base "_law_taken" 2 ["_law_hall_here", "_law_calls"] (spTaken K))
    (hAs : Has P w K mg base "_law_asked" 5 ["_law_hall_here", "_law_calls", "_law_number_here"] (spAsked K tb)) : FnOk P w K mg base CX0 6 f fd ["_law_script"] (spLaw K tb) := by
  refine F.ok scLaw (fun vs H Q E h => ?_) (fun cdv A outer s H vs Q E hr h => ?_)
  · obtain ⟨a, ns, rfl, _⟩ := h
    rfl
  · obtain ⟨a, ns, rfl, ha, few, hT, fin⟩ := h
    have hu := hu_of hr
    refine ⟨_, PSs.nox (pss_cons (ps_set (i := 1) scLaw.nd rfl (.inl rfl) (pe_has hHl hr (by decide) (pa_cons (pv 0) pa_nil)))
      (pss_cons (ps_set (i := 2) scLaw.nd rfl (.inl rfl) (pe_lst pa_nil))
      (pss_cons (ps_for PassesOwn.never rfl (pi_range2 (by rfl) B.range (pa_cons pe_int (pa_cons (pe_callB (call_min2 rfl) (by rfl) B.min (by decide +kernel) (pa_cons (pe_callB (lenK K) (by rfl) B.len (by decide +kernel) (pa_cons (pv 0) pa_nil)) (pa_cons pe_int pa_nil))) pa_nil))) (pg_name (i := 3) scLaw.nd rfl (.inl rfl))
        (pss_cons (ps_set (i := 4) scLaw.nd rfl (.inl rfl) (pe_has hN hr (by decide) (pa_cons (pe_ix ix_list (pv 0) (pv 3) (fun _ _ => rfl)) (pa_cons (pv 3) pa_nil))))
        (pss_cons (ps_set (i := 5) scLaw.nd rfl (.inl rfl) pe_non)
        (Evl.pss_cut (ps_if (pt_cmpR opn_ne (pe_op opn_mod (pe_op opn_mod (pe_op opn_mul (pv 4) pe_int) pe_int) pe_int) pe_int (nomark _))
          (pss_one (ps_set (i := 5) scLaw.nd rfl (.inl rfl) (pe_has hTr hr (by decide) (pa_cons (pv 1) (pa_cons (pe_has hTk hr (by decide) (pa_cons (pv 1) (pa_cons (pv 2) pa_nil))) (pa_cons (pv 4) pa_nil)))))) pss_nil)
        (Evl.pss_cut (ps_if (pt_cmp (pc_notN (pv 5)))
          (pss_one (ps_set (i := 2) scLaw.nd rfl (.inl rfl) (pe_callB (cr_sortC hr.units) (by rfl) B.sorted (by decide +kernel) (pa_cons (pe_op op_cat (pv 2) (pe_lst (pa_cons (pv 5) pa_nil))) pa_nil))))
          (pss_one (ps_if (pt_cmpR (op_neD hr.units) (pv 2) (pe_lst pa_nil) (nomark _))
            (pss_cons (ps_set (i := 6) scLaw.nd rfl (.inr rfl) (pe_ix ix_list (pv 2) (pe_op opn_mod (pe_op opn_mod (pe_op opn_mul (pv 4) pe_int) pe_int) (pe_callB (lenK K) (by rfl) B.len (by decide +kernel) (pa_cons (pv 2) pa_nil))) (fun _ _ => rfl)))
            (pss_one (ps_setLc (i := 2) (own := [("_law_one", 8)]) (g := gName 8) rfl scLaw.nd rfl rfl (sw_true rfl rfl rfl (by decide +kernel)) (pi_list (pv 2))
              (blkOk_by (own := [("_law_one", 8)]) (N := ["_law_script", "_law_hall_here", "_law_calls", "_law_at", "_law_number_here", "_law_call", "_law_gone", "_law_asked_here", "_law_one"]) (sc := defScope sLaw) (by decide +kernel))
              (fun _ _ _ _ _ => pg_name (i := 8) scLaw.nd rfl (Or.inl rfl)) (fun _ _ _ _ _ => pts_one (pt_cmpR (neDK K hr.units) (pv 8) (pv 6) (by rfl))) (fun _ _ _ _ _ => pv 8)))) pss_nil)))
        (pss_cons (ps_set (i := 7) scLaw.nd rfl (.inl rfl) (pe_op opn_add (pe_op opn_add (pe_op opn_mul (pv 4) pe_int) (pe_op opn_mul pe_int (pv 3))) pe_int))
        (pss_one (ps_if (pt_not (pt_val (pe_has hAs hr (by decide) (pa_cons (pv 1) (pa_cons (pv 2) (pa_cons (pv 7) pa_nil)))))) (pss_one (ps_ret pe_bl)) pss_nil))))))))
      (pss_one (ps_ret pe_bl))))), ?_⟩
    refine ⟨_, rfl, a, ns, rfl, ha, fun H1 p h s1 hh hp => ?_⟩
    refine ⟨Nat.zero_le _, fun l nl => ?_⟩
    have s2' := same_upd (o := .lst []) nl
    have s2 := s1.trans s2'
    have hp2 := s2' _ _ hp
    have hl2 : upd H1 l (.lst []) l = some (.lst []) := upd_same
    generalize upd H1 l (.lst []) = H2 at s2 hp2 hl2 ⊢
    refine ⟨_, rfl, a, _, rfl, .inl (Same.seq s2 ha), _, 70, rfl, 6, _, rfl, ⟨by decide, by decide, ?_, ?_⟩, ?_⟩
    · rw [List.length_map]
      split <;> omega
    · rw [List.length_map]
      split <;> omega
    rw [List.length_map]
    generalize hm : ((if (70 : Int) < (ns.length : Int) then (70 : Int) else (ns.length : Int)) - 6).toNat = m
    have hm2 : ∀ i, i < m → 6 + i < ns.length := fun i hi => by
      rw [← hm] at hi
      split at hi <;> omega
    refine for_range (lo := 6) (n := m) (fun i σ H' => ∃ (l : Addr) (ts : List (Addr × Cl)) (x3 x4 x5 x6 x7 : Option V), σ = [some (.ref a), some (.ref p), some (.ref l), x3, x4, x5, x6, x7, none] ∧ SqT K H' p (hallV h) ∧ SqL K H' a (ns.map V.int) ∧ H' l = some (.lst (refs ts)) ∧
        (∀ t, t ∈ ts → ClAt K H' t.1 t.2) ∧ Right h (cls ts) ∧ ts.length ≤ i ∧ LamX.Tabs [(tb, lamQ)] H')
      ⟨l, [], none, none, none, none, none, rfl, SqT.of hp2, Same.seq s2 ha, hl2, (fun t ht => by cases ht), Right.nil h, Nat.le_refl _, hT.ext s2⟩ ?_ ?_
    · rintro i σ H' hi ⟨l, ts, x3, x4, x5, x6, x7, rfl, hp, ha, hl, each, R, len, T⟩
      have hlt := hm2 i hi
      have okT : ∀ t, t ∈ ts → ClOk h t.2 := fun t ht => R.ok _ (List.mem_map.mpr ⟨t, ht, rfl⟩)
      have e6 : (6 : Int) + (i : Int) = ((6 + i : Nat) : Int) := by omega
      rw [e6]
      refine ⟨_, rfl, _, rfl, a, _, _, _, rfl, rfl, ha, atI_nat (by rw [List.getElem?_map, List.getElem?_eq_getElem hlt]; rfl), _, rfl, _, 6 + i, rfl, by omega, fun n => ?_⟩
      -- a new call?
      refine ⟨fun σ H2 => ∃ x5 : V, σ = [some (.ref a), some (.ref p), some (.ref l), some (I (6 + i)), some (I n), some x5, x6, x7, none] ∧ Same H' H2 ∧ (x5 = .non ∨ ∃ r nc, x5 = .ref r ∧ ClAt K H2 r nc ∧ ClOk h nc ∧ ∀ t, IsTaken h nc t → ∀ d, d ∈ cls ts → ¬ IsTaken h d t), ?_, ?_⟩
      · refine ⟨_, rfl, _, 950706376, rfl, rfl, by omega, _, 999917, rfl, rfl, by omega, _, 5, rfl, rfl, by omega, _, 2, rfl, rfl, _, rfl, ?_⟩
        refine ite2 (fun _ => ?_) (fun _ => ⟨.non, rfl, Same.refl _, .inl rfl⟩)
        refine ⟨_, rfl, _, rfl, _, rfl, p, l, h, ts, rfl, hh, hp, ⟨SqL.of hl, each⟩, okT, by omega, fun H2 d kvs s2 nd hd hdi hkl => ?_⟩
        have same : ∀ {H3}, SameBut d H2 H3 → Same H' H3 := fun {H3} sb b u hu => sb b u (s2 b u hu) (ne_of_none hu nd)
        refine ⟨_, rfl, p, d, h, n, kvs, _, rfl, hh, Same.seqT s2 hp, hd, hdi, hkl, fun H3 sb => ⟨.non, rfl, same sb, .inl rfl⟩, fun H3 r nc sb g1 g2 g3 => ⟨.ref r, rfl, same sb, .inr ⟨r, nc, rfl, g1, g2, fun t ht d hd z => g3 t ht ⟨d, hd, z⟩⟩⟩⟩
      · rintro σ H2 ⟨x5', rfl, s2, hx⟩
        have hl2 := s2 _ _ hl
        have each2 : ∀ t, t ∈ ts → ClAt K H2 t.1 t.2 := fun t ht => (each t ht).same s2
        refine ⟨fun σ H3 => ∃ (l2 : Addr) (ts2 : List (Addr × Cl)) (x6 : Option V), σ = [some (.ref a), some (.ref p), some (.ref l2), some (I (6 + i)), some (I n), some x5', x6, x7, none] ∧ Same H' H3 ∧ H3 l2 = some (.lst (refs ts2)) ∧ (∀ t, t ∈ ts2 → ClAt K H3 t.1 t.2) ∧ Right h (cls ts2) ∧ ts2.length ≤ i + 1, ?_, ?_⟩
        · refine ⟨_, rfl, _, rfl, ?_⟩
          rcases hx with rfl | ⟨r, nc, rfl, hr1, hr2, hr3⟩
          · rw [decide_eq_true rfl]
            refine iteF ?_
            refine ⟨_, rfl, Nat.zero_le _, fun z nz => ?_⟩
            have s3 := same_upd (o := .lst []) nz
            have each3 : ∀ t, t ∈ ts → ClAt K (upd H2 z (.lst [])) t.1 t.2 := fun t ht => (each2 t ht).same s3
            refine rNe_nil (SqL.of (s3 _ _ hl2)) (SqL.of upd_same) (dp_Cs ts each3) (sh_Cs _) ⟨_, rfl, ?_⟩
            refine ite2 (fun hfull => ?_) (fun _ => ⟨l, ts, x6, rfl, s2.trans s3, s3 _ _ hl2, each3, R, by omega⟩)
            have lpos : 1 ≤ ts.length := by
              rcases Nat.eq_zero_or_pos ts.length with z | z
              · rw [List.length_eq_zero_iff.mp z] at hfull
                exact absurd hfull (by decide)
              · exact z
            have hl3 := s3 _ _ hl2
            generalize upd H2 z (.lst []) = H3 at s3 each3 hl3 ⊢
            have s03 := s2.trans s3
            obtain ⟨g, hg⟩ : ∃ g, ts[n * 16807 % 999931 % ts.length]? = some g := ⟨_, List.getElem?_eq_getElem (Nat.mod_lt _ lpos)⟩
            refine ⟨_, rfl, _, rfl, _, 16807, rfl, rfl, by omega, _, 999931, rfl, rfl, by omega, _, rfl, l, _, rfl, .inl (SqL.of hl3), _, _, rfl, rfl, by rw [List.length_map]; exact lpos, l, _, _, _, rfl, rfl, SqL.of hl3, atI_nat (by rw [List.length_map, List.getElem?_map, hg]; rfl), ?_⟩
            refine ⟨_, rfl, l, rfl, ⟨_, SqL.of hl3⟩, fun D nD => ?_⟩
            refine lcs_list (K := K) (a := l) (xs := refs ts) (fun j => refs ((ts.take j).filter fun t => !PyData.eqv (dC t.2) (dC g.2))) nD (SqL.of hl3) rfl (fun j hj => ?_) (fun j y H4 Zt Zf hj s4 zt zf => ?_) fun H4 s4 hD => ?_
            · have := filter_few (fun t : Addr × Cl => !PyData.eqv (dC t.2) (dC g.2)) ts 63 j (by omega)
              rw [List.length_map, sizeLine_eq]
              omega
            · obtain ⟨t, ht, rfl⟩ := refs_at hj
              have c1 := (each3 t (List.mem_of_getElem? ht)).same s4
              have c2 := (each3 g (List.mem_of_getElem? hg)).same s4
              have st := refs_filter (fun t : Addr × Cl => !PyData.eqv (dC t.2) (dC g.2)) ht
              refine ⟨rfl, _, rfl, _, rfl, dC t.2, dC g.2, dp_C c1, dp_C c2, sh_C _, sh_C _, _, rfl, ?_⟩
              cases hc : !PyData.eqv (dC t.2) (dC g.2) with
              | true =>
                rw [hc] at st
                exact iteT ⟨_, rfl, zt _ _ (Same.refl _) st⟩
              | false =>
                rw [hc] at st
                exact iteF (zf _ (Same.refl _) (by rw [st]; exact List.append_nil _))
            rw [take_all (l := ts) (by rw [List.length_map])] at hD
            refine ⟨D, ts.filter fun t => !PyData.eqv (dC t.2) (dC g.2), _, rfl, s03.trans s4, hD, fun t ht => (each3 t (List.mem_filter.mp ht).1).same s4, R.sub (List.filter_sublist.map _), ?_⟩
            have := List.length_filter_le (fun t : Addr × Cl => !PyData.eqv (dC t.2) (dC g.2)) ts
            omega
          · rw [decide_eq_false (by intro z; cases z)]
            refine iteT ?_
            refine ⟨_, rfl, _, rfl, by show 1 ≤ sizeLine; decide, fun q nq => ?_⟩
            have s3 := same_upd (o := .lst [V.ref r]) nq
            refine ⟨l, q, _, _, rfl, rfl, s3 _ _ hl2, upd_same, by rw [List.length_map, sizeLine_eq]; show ts.length + 1 ≤ _; omega, fun u nu => ?_⟩
            have e1 : refs ts ++ [V.ref r] = refs (ts ++ [(r, nc)]) := by
              unfold refs
              rw [List.map_append]
              rfl
            rw [e1]
            have s4 := same_upd (o := .lst (refs (ts ++ [(r, nc)]))) nu
            have s24 := s3.trans s4
            have eachn : ∀ t, t ∈ ts ++ [(r, nc)] → ClAt K H2 t.1 t.2 := fun t ht => by
              rcases List.mem_append.mp ht with ht | ht
              · exact each2 t ht
              · rw [List.mem_singleton.mp ht]
                exact hr1
            refine ⟨u, ts ++ [(r, nc)], rfl, ⟨SqL.of upd_same, fun t ht => (eachn t ht).same s24⟩, by rw [List.length_append]; show ts.length + 1 < 64; omega, fun us v pm pw nv => ?_⟩
            have s5 := same_upd (o := .lst (refs us)) nv
            have Rn : Right h (cls us) := by
              refine R.add (n := nc) hr2 hr3 ?_ (List.pairwise_map.mpr pw)
              have := pm.map (fun t : Addr × Cl => t.2)
              rw [List.map_append] at this
              exact this
            refine ⟨v, us, x6, rfl, (s2.trans s24).trans s5, upd_same, fun t ht => (eachn t (pm.mem_iff.mp ht)).same (s24.trans s5), Rn, ?_⟩
            rw [pm.length_eq, List.length_append]
            show ts.length + 1 ≤ i + 1
            omega
        · rintro σ H3 ⟨l2, ts2, x6', rfl, s3, hl3, each3, R2, len2⟩
          refine ⟨_, rfl, _, 5, rfl, rfl, by omega, _, rfl, 3, _, rfl, rfl, by omega, _, _, rfl, rfl, _, 1, rfl, rfl, ?_⟩
          refine ⟨_, rfl, _, rfl, _, rfl, p, l2, h, ts2, _, rfl, hh, Same.seqT s3 hp, ⟨SqL.of hl3, each3⟩, R2, by omega, T.ext s3, fun H4 eN T4 => ?_⟩
          refine ⟨_, rfl, ?_⟩
          refine iteF ?_
          refine ⟨l2, ts2, _, _, _, _, _, rfl, ExtN.seqT eN (Same.seqT s3 hp), ExtN.seq eN (Same.seq s3 ha), eN _ _ hl3 (fun _ z => by cases z), fun t ht => ?_, R2, len2, T4⟩
          obtain ⟨q, h1, h2⟩ := each3 t ht
          exact ⟨q, ExtN.seqT eN h1, ExtN.seqT eN h2⟩
    · rintro σ H' _
      exact fin H'
end
end Xr
set_option Elab.async false
set_option linter.all false
set_option maxRecDepth 100000
set_option maxHeartbeats 4000000
/-! The facts of the heap's defs, joined to law's promise. -/
namespace Xr
open PySem PySem.Spec PyProof.Rows L2
def defD (x : Str) (st : Stmt) (dfl : List He.Dv) : He.DefD := ⟨(x, none), x, x, defArgs st, defBody st, defScope st, dfl, []⟩
def fn : List He.DefD := [
defD "place_in" sPlace [],
  defD "racks_of" sRacks [],
  defD "bit_list" sBitl [],
  defD "in_bits" sInb [],
  defD "out_bits" sOutb [],
  defD "is_open" sOpen [],
  defD "holders" sHold [],
  defD "ways" sWays [.int 0],
  defD "least_ended" sLeast [.int 0],
  defD "count_of" sCount [.int 0],
  defD "_law_cell_at" sCell [],
  defD "_law_hall" sHall [],
  defD "_law_ends" sEnds [],
  defD "_law_lines" sLines [],
  defD "_law_number" sNumber [],
  defD "_law_try" sTry [],
  defD "_law_alike" sAlike [],
  defD "_law_ways_held" sWheld [],
  defD "_law_left" sLeft [],
  defD "_law_least" sLleast [],
  defD "_law_counted" sCounted [],
  defD "_law_asked" sAsked [],
  defD "_law_taken" sTaken [],
  defD "law" sLaw []]
def fa : List He.Fa := [
.glo "place_in",
  .glo "racks_of",
  .glo "bit_list",
  .glo "in_bits",
  .glo "out_bits",
  .glo "is_open",
  .glo "holders",
  .glo "ways",
  .glo "least_ended",
  .glo "count_of",
  .glo "_law_cell_at",
  .glo "_law_hall",
  .glo "_law_ends",
  .glo "_law_lines",
  .glo "_law_number",
  .glo "_law_try",
  .glo "_law_alike",
  .glo "_law_ways_held",
  .glo "_law_left",
  .glo "_law_least",
  .glo "_law_counted",
  .glo "_law_asked",
  .glo "_law_taken",
  .glo "law",
  .free "len",
  .free "sorted",
  .free "range",
  .free "divmod",
  .free "min",
  .free "isinstance",
  .free "set",
  .free "list",
  .free "tuple",
  .free "abs",
  .free "sum",
  .free "int",
  .free "bool"]
def tf : List He.Defn := [("least_ended", none)]
def ex : PySem.W.Frag → Bool := fun _ => true
/-- the code object of the def at x -/
theorem code_known {K : PySem.W.Frag} {x : Str} {st : Stmt} {dvs : List V} {fd : FuncData} (F : FnP K x st dvs (He.ga K x) fd) : fd.code = .ref (He.codeOf K (x, none)) := by
  obtain ⟨oc, od, dV, kV, doc, pm, an, cdv, ct, osl, rfl, lk, hcd, _, _⟩ := F.ex
  obtain ⟨c, rfl⟩ := He.codeIn_ref hcd
  rw [He.codeOf_eq (p := (x, none)) lk rfl]
theorem facts {w : World} {K : PySem.W.Frag} {h : Heap} {mg : Str → Option Value} {f : Addr} (X : K.In h) (G : h.Ns mainGlobals mg) (hfa : mg ("law" : Str) = some (.ref f)) (c : He.SaysX fa fn [] tf ex w h K) :
    LamX.LawAtS PySem.Challenge.rw_crossracks_k16_whole_paper_of_ways w K CX0 6 63 "_law_script" mg f h := by
  have D := c.t.d
  obtain ⟨fd_sPlace, F_sPlace⟩ : ∃ fd, FnP K "place_in" sPlace [] (He.ga K "place_in") fd := D.def_ 0 (d := defD "place_in" sPlace []) rfl
  have g_sPlace := He.glo_ok X G (D.fact 0 (f := .glo "place_in") rfl)
  obtain ⟨fd_sRacks, F_sRacks⟩ : ∃ fd, FnP K "racks_of" sRacks [] (He.ga K "racks_of") fd := D.def_ 1 (d := defD "racks_of" sRacks []) rfl
  have g_sRacks := He.glo_ok X G (D.fact 1 (f := .glo "racks_of") rfl)
  obtain ⟨fd_sBitl, F_sBitl⟩ : ∃ fd, FnP K "bit_list" sBitl [] (He.ga K "bit_list") fd := D.def_ 2 (d := defD "bit_list" sBitl []) rfl
  have g_sBitl := He.glo_ok X G (D.fact 2 (f := .glo "bit_list") rfl)
  obtain ⟨fd_sInb, F_sInb⟩ : ∃ fd, FnP K "in_bits" sInb [] (He.ga K "in_bits") fd := D.def_ 3 (d := defD "in_bits" sInb []) rfl
  have g_sInb := He.glo_ok X G (D.fact 3 (f := .glo "in_bits") rfl)
  obtain ⟨fd_sOutb, F_sOutb⟩ : ∃ fd, FnP K "out_bits" sOutb [] (He.ga K "out_bits") fd := D.def_ 4 (d := defD "out_bits" sOutb []) rfl
  have g_sOutb := He.glo_ok X G (D.fact 4 (f := .glo "out_bits") rfl)
  obtain ⟨fd_sOpen, F_sOpen⟩ : ∃ fd, FnP K "is_open" sOpen [] (He.ga K "is_open") fd := D.def_ 5 (d := defD "is_open" sOpen []) rfl
  have g_sOpen := He.glo_ok X G (D.fact 5 (f := .glo "is_open") rfl)
  obtain ⟨fd_sHold, F_sHold⟩ : ∃ fd, FnP K "holders" sHold [] (He.ga K "holders") fd := D.def_ 6 (d := defD "holders" sHold []) rfl
  have g_sHold := He.glo_ok X G (D.fact 6 (f := .glo "holders") rfl)
  obtain ⟨fd_sWays, F_sWays⟩ : ∃ fd, FnP K "ways" sWays [.int 0] (He.ga K "ways") fd := D.def_ 7 (d := defD "ways" sWays [.int 0]) rfl
  have g_sWays := He.glo_ok X G (D.fact 7 (f := .glo "ways") rfl)
  obtain ⟨fd_sLeast, F_sLeast⟩ : ∃ fd, FnP K "least_ended" sLeast [.int 0] (He.ga K "least_ended") fd := D.def_ 8 (d := defD "least_ended" sLeast [.int 0]) rfl
  have g_sLeast := He.glo_ok X G (D.fact 8 (f := .glo "least_ended") rfl)
  obtain ⟨fd_sCount, F_sCount⟩ : ∃ fd, FnP K "count_of" sCount [.int 0] (He.ga K "count_of") fd := D.def_ 9 (d := defD "count_of" sCount [.int 0]) rfl
  have g_sCount := He.glo_ok X G (D.fact 9 (f := .glo "count_of") rfl)
  obtain ⟨fd_sCell, F_sCell⟩ : ∃ fd, FnP K "_law_cell_at" sCell [] (He.ga K "_law_cell_at") fd := D.def_ 10 (d := defD "_law_cell_at" sCell []) rfl
  have g_sCell := He.glo_ok X G (D.fact 10 (f := .glo "_law_cell_at") rfl)
  obtain ⟨fd_sHall, F_sHall⟩ : ∃ fd, FnP K "_law_hall" sHall [] (He.ga K "_law_hall") fd := D.def_ 11 (d := defD "_law_hall" sHall []) rfl
  have g_sHall := He.glo_ok X G (D.fact 11 (f := .glo "_law_hall") rfl)
  obtain ⟨fd_sEnds, F_sEnds⟩ : ∃ fd, FnP K "_law_ends" sEnds [] (He.ga K "_law_ends") fd := D.def_ 12 (d := defD "_law_ends" sEnds []) rfl
  have g_sEnds := He.glo_ok X G (D.fact 12 (f := .glo "_law_ends") rfl)
  obtain ⟨fd_sLines, F_sLines⟩ : ∃ fd, FnP K "_law_lines" sLines [] (He.ga K "_law_lines") fd := D.def_ 13 (d := defD "_law_lines" sLines []) rfl
  have g_sLines := He.glo_ok X G (D.fact 13 (f := .glo "_law_lines") rfl)
  obtain ⟨fd_sNumber, F_sNumber⟩ : ∃ fd, FnP K "_law_number" sNumber [] (He.ga K "_law_number") fd := D.def_ 14 (d := defD "_law_number" sNumber []) rfl
  have g_sNumber := He.glo_ok X G (D.fact 14 (f := .glo "_law_number") rfl)
  obtain ⟨fd_sTry, F_sTry⟩ : ∃ fd, FnP K "_law_try" sTry [] (He.ga K "_law_try") fd := D.def_ 15 (d := defD "_law_try" sTry []) rfl
  have g_sTry := He.glo_ok X G (D.fact 15 (f := .glo "_law_try") rfl)
  obtain ⟨fd_sAlike, F_sAlike⟩ : ∃ fd, FnP K "_law_alike" sAlike [] (He.ga K "_law_alike") fd := D.def_ 16 (d := defD "_law_alike" sAlike []) rfl
  have g_sAlike := He.glo_ok X G (D.fact 16 (f := .glo "_law_alike") rfl)
  obtain ⟨fd_sWheld, F_sWheld⟩ : ∃ fd, FnP K "_law_ways_held" sWheld [] (He.ga K "_law_ways_held") fd := D.def_ 17 (d := defD "_law_ways_held" sWheld []) rfl
  have g_sWheld := He.glo_ok X G (D.fact 17 (f := .glo "_law_ways_held") rfl)
  obtain ⟨fd_sLeft, F_sLeft⟩ : ∃ fd, FnP K "_law_left" sLeft [] (He.ga K "_law_left") fd := D.def_ 18 (d := defD "_law_left" sLeft []) rfl
  have g_sLeft := He.glo_ok X G (D.fact 18 (f := .glo "_law_left") rfl)
  obtain ⟨fd_sLleast, F_sLleast⟩ : ∃ fd, FnP K "_law_least" sLleast [] (He.ga K "_law_least") fd := D.def_ 19 (d := defD "_law_least" sLleast []) rfl
  have g_sLleast := He.glo_ok X G (D.fact 19 (f := .glo "_law_least") rfl)
  obtain ⟨fd_sCounted, F_sCounted⟩ : ∃ fd, FnP K "_law_counted" sCounted [] (He.ga K "_law_counted") fd := D.def_ 20 (d := defD "_law_counted" sCounted []) rfl
  have g_sCounted := He.glo_ok X G (D.fact 20 (f := .glo "_law_counted") rfl)
  obtain ⟨fd_sAsked, F_sAsked⟩ : ∃ fd, FnP K "_law_asked" sAsked [] (He.ga K "_law_asked") fd := D.def_ 21 (d := defD "_law_asked" sAsked []) rfl
  have g_sAsked := He.glo_ok X G (D.fact 21 (f := .glo "_law_asked") rfl)
  obtain ⟨fd_sTaken, F_sTaken⟩ : ∃ fd, FnP K "_law_taken" sTaken [] (He.ga K "_law_taken") fd := D.def_ 22 (d := defD "_law_taken" sTaken []) rfl
  have g_sTaken := He.glo_ok X G (D.fact 22 (f := .glo "_law_taken") rfl)
  obtain ⟨fd_sLaw, F_sLaw⟩ : ∃ fd, FnP K "law" sLaw [] (He.ga K "law") fd := D.def_ 23 (d := defD "law" sLaw []) rfl
  have g_sLaw := He.glo_ok X G (D.fact 23 (f := .glo "law") rfl)
  have n_len := He.free_ok X G (D.fact 24 (f := .free "len") rfl)
  have n_sorted := He.free_ok X G (D.fact 25 (f := .free "sorted") rfl)
  have n_range := He.free_ok X G (D.fact 26 (f := .free "range") rfl)
  have n_divmod := He.free_ok X G (D.fact 27 (f := .free "divmod") rfl)
  have n_min := He.free_ok X G (D.fact 28 (f := .free "min") rfl)
  have n_isinstance := He.free_ok X G (D.fact 29 (f := .free "isinstance") rfl)
  have n_set := He.free_ok X G (D.fact 30 (f := .free "set") rfl)
  have n_list := He.free_ok X G (D.fact 31 (f := .free "list") rfl)
  have n_tuple := He.free_ok X G (D.fact 32 (f := .free "tuple") rfl)
  have n_abs := He.free_ok X G (D.fact 33 (f := .free "abs") rfl)
  have n_sum := He.free_ok X G (D.fact 34 (f := .free "sum") rfl)
  have n_int := He.free_ok X G (D.fact 35 (f := .free "int") rfl)
  have n_bool := He.free_ok X G (D.fact 36 (f := .free "bool") rfl)
  have B : Bi mg := ⟨n_len, n_sorted, n_range, n_divmod, n_min, n_isinstance, n_set, n_list, n_tuple, n_abs, n_sum, n_int, n_bool⟩
  have b_sPlace : Binds K fd_sPlace ["hall", "caller"] [] := F_sPlace.bindsN fun _ _ _ _ _ _ us hl => match us, hl with | [_, _], _ => rfl
  have b_sRacks : Binds K fd_sRacks ["hall", "ends"] [] := F_sRacks.bindsN fun _ _ _ _ _ _ us hl => match us, hl with | [_, _], _ => rfl
  have b_sBitl : Binds K fd_sBitl ["bits"] [] := F_sBitl.bindsN fun _ _ _ _ _ _ us hl => match us, hl with | [_], _ => rfl
  have b_sInb : Binds K fd_sInb ["hall", "calls"] [] := F_sInb.bindsN fun _ _ _ _ _ _ us hl => match us, hl with | [_, _], _ => rfl
  have b_sOutb : Binds K fd_sOutb ["hall", "calls"] [] := F_sOutb.bindsN fun _ _ _ _ _ _ us hl => match us, hl with | [_, _], _ => rfl
  have b_sOpen : Binds K fd_sOpen ["shut", "k"] [] := F_sOpen.bindsN fun _ _ _ _ _ _ us hl => match us, hl with | [_, _], _ => rfl
  have b_sHold : Binds K fd_sHold ["hall", "calls", "caller", "ends"] [] := F_sHold.bindsN fun _ _ _ _ _ _ us hl => match us, hl with | [_, _, _, _], _ => rfl
  have b_sWays : Binds K fd_sWays ["hall", "calls", "caller", "ends", "shut"] [] := by
    obtain ⟨ds, r, hb⟩ := FunD.binds1 (ps := ["hall", "calls", "caller", "ends", "shut"]) F_sWays 5 1 (fun z => by cases z) rfl fun _ _ _ _ _ _ _ us its hl hi => match us, its, hl, hi with | [_, _, _, _, _], [_], _, _ => ⟨_, rfl, rfl⟩
    cases r
    exact hb
  have b_sLeast : Binds K fd_sLeast ["hall", "calls", "caller", "ends", "shut"] [] := by
    obtain ⟨ds, r, hb⟩ := FunD.binds1 (ps := ["hall", "calls", "caller", "ends", "shut"]) F_sLeast 5 1 (fun z => by cases z) rfl fun _ _ _ _ _ _ _ us its hl hi => match us, its, hl, hi with | [_, _, _, _, _], [_], _, _ => ⟨_, rfl, rfl⟩
    cases r
    exact hb
  have b_sCount : Binds K fd_sCount ["hall", "calls", "caller", "ends", "shut"] [] := by
    obtain ⟨ds, r, hb⟩ := FunD.binds1 (ps := ["hall", "calls", "caller", "ends", "shut"]) F_sCount 5 1 (fun z => by cases z) rfl fun _ _ _ _ _ _ _ us its hl hi => match us, its, hl, hi with | [_, _, _, _, _], [_], _, _ => ⟨_, rfl, rfl⟩
    cases r
    exact hb
  have b_sCell : Binds K fd_sCell ["_law_script", "_law_k"] [] := F_sCell.bindsN fun _ _ _ _ _ _ us hl => match us, hl with | [_, _], _ => rfl
  have b_sHall : Binds K fd_sHall ["_law_script"] [] := F_sHall.bindsN fun _ _ _ _ _ _ us hl => match us, hl with | [_], _ => rfl
  have b_sEnds : Binds K fd_sEnds ["_law_hall_here", "_law_number_here"] [] := F_sEnds.bindsN fun _ _ _ _ _ _ us hl => match us, hl with | [_, _], _ => rfl
  have b_sLines : Binds K fd_sLines ["_law_hall_here", "_law_caller", "_law_ends_here", "_law_k"] [] := F_sLines.bindsN fun _ _ _ _ _ _ us hl => match us, hl with | [_, _, _, _], _ => rfl
  have b_sNumber : Binds K fd_sNumber ["_law_cell", "_law_at"] [] := F_sNumber.bindsN fun _ _ _ _ _ _ us hl => match us, hl with | [_, _], _ => rfl
  have b_sTry : Binds K fd_sTry ["_law_hall_here", "_law_taken_here", "_law_number_here"] [] := F_sTry.bindsN fun _ _ _ _ _ _ us hl => match us, hl with | [_, _, _], _ => rfl
  have b_sAlike : Binds K fd_sAlike ["_law_found", "_law_due"] [] := F_sAlike.bindsN fun _ _ _ _ _ _ us hl => match us, hl with | [_, _], _ => rfl
  have b_sWheld : Binds K fd_sWheld ["_law_hall_here", "_law_held", "_law_asked_here", "_law_free", "_law_kept"] [] := F_sWheld.bindsN fun _ _ _ _ _ _ us hl => match us, hl with | [_, _, _, _, _], _ => rfl
  have b_sLeft : Binds K fd_sLeft ["_law_calls", "_law_gone"] [] := F_sLeft.bindsN fun _ _ _ _ _ _ us hl => match us, hl with | [_, _], _ => rfl
  have b_sLleast : Binds K fd_sLleast ["_law_hall_here", "_law_calls", "_law_asked_here", "_law_free", "_law_kept", "_law_number_here"] [] := F_sLleast.bindsN fun _ _ _ _ _ _ us hl => match us, hl with | [_, _, _, _, _, _], _ => rfl
  have b_sCounted : Binds K fd_sCounted ["_law_hall_here", "_law_held", "_law_asked_here"] [] := F_sCounted.bindsN fun _ _ _ _ _ _ us hl => match us, hl with | [_, _, _], _ => rfl
  have b_sAsked : Binds K fd_sAsked ["_law_hall_here", "_law_calls", "_law_number_here"] [] := F_sAsked.bindsN fun _ _ _ _ _ _ us hl => match us, hl with | [_, _, _], _ => rfl
  have b_sTaken : Binds K fd_sTaken ["_law_hall_here", "_law_calls"] [] := F_sTaken.bindsN fun _ _ _ _ _ _ us hl => match us, hl with | [_, _], _ => rfl
  have e := hfa.symm.trans g_sLaw
  cases e
  have b := FunD.bindsA (ps := ["_law_script"]) F_sLaw fun _ _ _ _ _ _ us hl => match us, hl with | [_], _ => rfl
  have hm : He.cT K ("least_ended", none) ∈ [He.cT K ("least_ended", none)] := List.mem_singleton.mpr rfl
  have ht : (("least_ended", none) : He.Defn) ∈ tf := List.mem_singleton.mpr rfl
  refine ⟨fd_sLaw, [He.cT K ("least_ended", none)], spLaw K (He.cT K ("least_ended", none)).2, fun p hp => ?_, fun p hp => ?_, fun p hp => ?_, fun s v => b s [v] rfl, fun H a ns hl _ hT hS => ?_, fun base hKb hGb TBs => ?_⟩
  · rw [List.mem_singleton.mp hp]
    exact c.empty _ ht
  · rw [List.mem_singleton.mp hp]
    exact c.out _ ht
  · rw [List.mem_singleton.mp hp]
    exact PySem.W.codeHd_of_K X (c.hd _ ht)
  · refine ⟨a, ns, rfl, hS, hl, fun p hp => ?_, fun _ => rfl⟩
    rw [List.mem_singleton.mp hp]
    exact LamX.TabS.nil (hT _ hm)
  · have TB := TBs _ hm
    have h_sPlace : Has PySem.Challenge.rw_crossracks_k16_whole_paper_of_ways.prog w K mg base "place_in" 1 ["hall", "caller"] (spPlace K) := ⟨_, _, ok_place B F_sPlace, g_sPlace, F_sPlace.kp, b_sPlace⟩
    have h_sRacks : Has PySem.Challenge.rw_crossracks_k16_whole_paper_of_ways.prog w K mg base "racks_of" 1 ["hall", "ends"] (spRacks K) := ⟨_, _, ok_racks B F_sRacks, g_sRacks, F_sRacks.kp, b_sRacks⟩
    have h_sBitl : Has PySem.Challenge.rw_crossracks_k16_whole_paper_of_ways.prog w K mg base "bit_list" 1 ["bits"] spBitl := ⟨_, _, ok_bitl B F_sBitl, g_sBitl, F_sBitl.kp, b_sBitl⟩
    have h_sInb : Has PySem.Challenge.rw_crossracks_k16_whole_paper_of_ways.prog w K mg base "in_bits" 1 ["hall", "calls"] (spInb K) := ⟨_, _, ok_inb F_sInb, g_sInb, F_sInb.kp, b_sInb⟩
    have h_sOutb : Has PySem.Challenge.rw_crossracks_k16_whole_paper_of_ways.prog w K mg base "out_bits" 2 ["hall", "calls"] (spOutb K) := ⟨_, _, ok_outb F_sOutb h_sRacks, g_sOutb, F_sOutb.kp, b_sOutb⟩
    have h_sOpen : Has PySem.Challenge.rw_crossracks_k16_whole_paper_of_ways.prog w K mg base "is_open" 1 ["shut", "k"] spOpen := ⟨_, _, ok_open F_sOpen, g_sOpen, F_sOpen.kp, b_sOpen⟩
    have h_sHold : Has PySem.Challenge.rw_crossracks_k16_whole_paper_of_ways.prog w K mg base "holders" 2 ["hall", "calls", "caller", "ends"] (spHold K) := ⟨_, _, ok_hold B F_sHold h_sPlace h_sRacks, g_sHold, F_sHold.kp, b_sHold⟩
    have h_sWays : Has PySem.Challenge.rw_crossracks_k16_whole_paper_of_ways.prog w K mg base "ways" 3 ["hall", "calls", "caller", "ends", "shut"] (spWays K) := ⟨_, _, ok_ways B F_sWays h_sPlace h_sRacks h_sInb h_sOutb h_sOpen, g_sWays, F_sWays.kp, b_sWays⟩
    have h_sLeast : Has PySem.Challenge.rw_crossracks_k16_whole_paper_of_ways.prog w K mg base "least_ended" 3 ["hall", "calls", "caller", "ends", "shut"] (spLeast K (He.cT K ("least_ended", none)).2) := ⟨_, _, ok_least B F_sLeast (code_known F_sLeast) TB h_sOpen h_sHold, g_sLeast, F_sLeast.kp, b_sLeast⟩
    have h_sCount : Has PySem.Challenge.rw_crossracks_k16_whole_paper_of_ways.prog w K mg base "count_of" 3 ["hall", "calls", "caller", "ends", "shut"] (spCount K) := ⟨_, _, ok_count B F_sCount h_sPlace h_sRacks h_sInb h_sOutb h_sBitl, g_sCount, F_sCount.kp, b_sCount⟩
    have h_sCell : Has PySem.Challenge.rw_crossracks_k16_whole_paper_of_ways.prog w K mg base "_law_cell_at" 1 ["_law_script", "_law_k"] (spCellAt K) := ⟨_, _, ok_cellAt B F_sCell, g_sCell, F_sCell.kp, b_sCell⟩
    have h_sHall : Has PySem.Challenge.rw_crossracks_k16_whole_paper_of_ways.prog w K mg base "_law_hall" 2 ["_law_script"] (spHall K) := ⟨_, _, ok_hall B F_sHall h_sCell, g_sHall, F_sHall.kp, b_sHall⟩
    have h_sEnds : Has PySem.Challenge.rw_crossracks_k16_whole_paper_of_ways.prog w K mg base "_law_ends" 1 ["_law_hall_here", "_law_number_here"] (spEnds K) := ⟨_, _, ok_ends B F_sEnds, g_sEnds, F_sEnds.kp, b_sEnds⟩
    have h_sLines : Has PySem.Challenge.rw_crossracks_k16_whole_paper_of_ways.prog w K mg base "_law_lines" 1 ["_law_hall_here", "_law_caller", "_law_ends_here", "_law_k"] (spLines K) := ⟨_, _, ok_lines F_sLines, g_sLines, F_sLines.kp, b_sLines⟩
    have h_sNumber : Has PySem.Challenge.rw_crossracks_k16_whole_paper_of_ways.prog w K mg base "_law_number" 1 ["_law_cell", "_law_at"] spNumber := ⟨_, _, ok_number B F_sNumber, g_sNumber, F_sNumber.kp, b_sNumber⟩
    have h_sTry : Has PySem.Challenge.rw_crossracks_k16_whole_paper_of_ways.prog w K mg base "_law_try" 2 ["_law_hall_here", "_law_taken_here", "_law_number_here"] (spTry K) := ⟨_, _, ok_try B F_sTry h_sEnds h_sLines, g_sTry, F_sTry.kp, b_sTry⟩
    have h_sAlike : Has PySem.Challenge.rw_crossracks_k16_whole_paper_of_ways.prog w K mg base "_law_alike" 2 ["_law_found", "_law_due"] (spAlike K 1) := ⟨_, _, ok_alike B F_sAlike g_sAlike b_sAlike 1, g_sAlike, F_sAlike.kp, b_sAlike⟩
    have h_sAlike3 : Has PySem.Challenge.rw_crossracks_k16_whole_paper_of_ways.prog w K mg base "_law_alike" 3 ["_law_found", "_law_due"] (spAlike K 2) := ⟨_, _, ok_alike B F_sAlike g_sAlike b_sAlike 2, g_sAlike, F_sAlike.kp, b_sAlike⟩
    have h_sWheld : Has PySem.Challenge.rw_crossracks_k16_whole_paper_of_ways.prog w K mg base "_law_ways_held" 3 ["_law_hall_here", "_law_held", "_law_asked_here", "_law_free", "_law_kept"] (spWheld K) := ⟨_, _, ok_wheld B F_sWheld h_sLines h_sAlike, g_sWheld, F_sWheld.kp, b_sWheld⟩
    have h_sLeft : Has PySem.Challenge.rw_crossracks_k16_whole_paper_of_ways.prog w K mg base "_law_left" 1 ["_law_calls", "_law_gone"] (spLeft K) := ⟨_, _, ok_left F_sLeft, g_sLeft, F_sLeft.kp, b_sLeft⟩
    have h_sLleast : Has PySem.Challenge.rw_crossracks_k16_whole_paper_of_ways.prog w K mg base "_law_least" 4 ["_law_hall_here", "_law_calls", "_law_asked_here", "_law_free", "_law_kept", "_law_number_here"] (spLleast K (He.cT K ("least_ended", none)).2) := ⟨_, _, ok_lleast B F_sLleast h_sLeast h_sWays h_sLeft, g_sLleast, F_sLleast.kp, b_sLleast⟩
    have h_sCounted : Has PySem.Challenge.rw_crossracks_k16_whole_paper_of_ways.prog w K mg base "_law_counted" 1 ["_law_hall_here", "_law_held", "_law_asked_here"] (spCounted K) := ⟨_, _, ok_counted B F_sCounted, g_sCounted, F_sCounted.kp, b_sCounted⟩
    have h_sAsked : Has PySem.Challenge.rw_crossracks_k16_whole_paper_of_ways.prog w K mg base "_law_asked" 5 ["_law_hall_here", "_law_calls", "_law_number_here"] (spAsked K (He.cT K ("least_ended", none)).2) := ⟨_, _, ok_asked B F_sAsked h_sLines h_sEnds h_sWays h_sHold h_sWheld h_sCounted h_sCount h_sAlike3 h_sLleast, g_sAsked, F_sAsked.kp, b_sAsked⟩
    have h_sTaken : Has PySem.Challenge.rw_crossracks_k16_whole_paper_of_ways.prog w K mg base "_law_taken" 2 ["_law_hall_here", "_law_calls"] (spTaken K) := ⟨_, _, ok_taken F_sTaken h_sLines, g_sTaken, F_sTaken.kp, b_sTaken⟩
    exact ok_law B F_sLaw h_sHall h_sNumber h_sTry h_sTaken h_sAsked
end Xr
set_option Elab.async false
set_option linter.all false
set_option maxRecDepth 100000
set_option maxHeartbeats 0
/-! The head's run. -/
namespace Xr
open PySem PySem.Spec PyProof.Rows L2
abbrev R : PySem.W.OpenRow := PySem.W.OpenLaw.row PySem.Challenge.rw_crossracks_k16_whole_paper_of_ways
abbrev hk : PySem.W.Hook := He.hookX 4 fa fn [] tf ex
def ob (s : PySem.W.SharedT) : He.AlX := He.obsX 4 fa fn [] tf ex (HandSHeadRun.getT s)
theorem ob_eq (s : PySem.W.SharedT) : ob s = hk.obs s.abs := He.obsX_eq (HandSHeadRun.getT_eq s)
def names : List Str := ["place_in", "racks_of", "bit_list", "in_bits", "out_bits", "is_open", "holders", "ways", "least_ended", "count_of", "_law_cell_at", "_law_hall", "_law_ends", "_law_lines", "_law_number", "_law_try", "_law_alike", "_law_ways_held", "_law_left", "_law_least", "_law_counted", "_law_asked", "_law_taken"]
theorem run (w : World) : HandSHeadRun.RunEq R (PySem.W.view R.prog [28]) hk ob 3000 names w := by
  intro os
  kernel_rfl
end Xr
set_option Elab.async false
set_option linter.all false
set_option maxRecDepth 100000
set_option maxHeartbeats 0
open PySem PySem.W PySem.Calls PyProof.Rows
theorem PySem.Challenge.cw_crossracks_k16_whole_paper_of_ways_holds : PySem.Challenge.rw_crossracks_k16_whole_paper_of_ways.Holds := by
  w_on; o_law
  refine HandSHeadRun.head_any (r := OpenLaw.row PySem.Challenge.rw_crossracks_k16_whole_paper_of_ways) (q := view (OpenLaw.row PySem.Challenge.rw_crossracks_k16_whole_paper_of_ways).prog [28]) (H := Xr.hk) (ob := Xr.ob) (M := 3000) (loose := Xr.names)
    (d := HandSHeadRun.topDef (OpenLaw.row PySem.Challenge.rw_crossracks_k16_whole_paper_of_ways).prog 28) (kwd := []) Xr.ob_eq
    (by kernel_rfl) (fun s => by kernel_rfl) Xr.run (by kernel_rfl) (by kernel_rfl) (by kernel_rfl) (by rfl) (by first | assumption | decide +kernel) (by decide +kernel) ⟨rfl, rfl, rfl, rfl, rfl, by decide +kernel⟩ ?hw ?hc
  case hw => w_witness2
  case hc =>
    refine LamX.walk_ofTsE (l := PySem.Challenge.rw_crossracks_k16_whole_paper_of_ways) (n := 63) (k := 6) (x := "_law_script") (CX := fun _ => C8.CX0) rfl (by decide) (by kernel_rfl) ⟨rfl, by decide, by decide⟩ ?F (fun _ _ _ _ _ z => z)
    intro w mg f h Y G hmg0
    obtain ⟨K, KX, c⟩ := Y
    have hmg : mg ("law" : PySem.Str) = some (.ref f) := by
      have e : (HandSHeadRun.topDef (OpenLaw.row PySem.Challenge.rw_crossracks_k16_whole_paper_of_ways).prog 28).name = ("law" : PySem.Str) := by kernel_rfl
      rw [← e]
      exact hmg0
    exact ⟨K, KX, Xr.facts KX G hmg c⟩
