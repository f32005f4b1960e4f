import PyProof.Rows.All
import Wide.All
import OpenK.AllK
import Wide.FinOn
import KE.GoesEnum
import KE.KIndexOf
import HandS.ForMost
import HandS.Walk
import HandS.IsInst
import HandS.Star
import HandS.Conv
import HandS.Sort
import HandS.SetFor
import HandS.Evl
import PySem.Challenge.RW_counterlines_k70_whole_orders_by_calls
set_option Elab.async false
/-! Plain mathematics of rows, plans and lines; rows are told by their history h, the latest call first. -/
namespace CkM

/-! ### last calls -/
/-- the place of the last call of p, -1 if there is none -/
def last (p : Int) : List Int → Int
  | [] => -1
  | x :: h => if x = p then (h.length : Int) else last p h
theorem last_nil (p : Int) : last p [] = -1 := rfl
theorem last_pos {p x : Int} {h : List Int} (e : x = p) : last p (x :: h) = (h.length : Int) := by
  show (if x = p then (h.length : Int) else last p h) = _
  rw [if_pos e]
theorem last_neg {p x : Int} {h : List Int} (e : x ≠ p) : last p (x :: h) = last p h := by
  show (if x = p then (h.length : Int) else last p h) = _
  rw [if_neg e]
theorem last_ge (p : Int) : ∀ h : List Int, -1 ≤ last p h
  | [] => by rw [last_nil]; omega
  | x :: h => by
    by_cases e : x = p
    · rw [last_pos e]; omega
    · rw [last_neg e]; exact last_ge p h
theorem last_lt (p : Int) : ∀ h : List Int, last p h < (h.length : Int)
  | [] => by rw [last_nil]; show (-1 : Int) < 0; omega
  | x :: h => by
    have ih := last_lt p h
    rw [List.length_cons]
    by_cases e : x = p
    · rw [last_pos e]; omega
    · rw [last_neg e]; omega
theorem last_none {p : Int} : ∀ {h : List Int}, last p h = -1 ↔ p ∉ h
  | [] => by simp [last_nil]
  | x :: h => by
    have ih := last_none (p := p) (h := h)
    by_cases e : x = p
    · rw [last_pos e]
      refine ⟨fun q => by omega, fun q => absurd (e ▸ List.mem_cons_self) q⟩
    · rw [last_neg e, ih]
      refine ⟨fun q m => ?_, fun q m => q (List.mem_cons_of_mem _ m)⟩
      rcases List.mem_cons.mp m with z | z
      · exact e z.symm
      · exact q z
theorem last_nn {p : Int} {h : List Int} (m : p ∈ h) : 0 ≤ last p h := by
  have h1 := last_ge p h
  have h2 : last p h ≠ -1 := fun e => last_none.mp e m
  omega
theorem last_inj {p q : Int} (n : p ≠ q) : ∀ {h : List Int}, last p h = last q h → last p h = -1
  | [], _ => last_nil p
  | x :: h, e => by
    by_cases e1 : x = p
    · have e2 : x ≠ q := fun z => n (e1.symm.trans z)
      rw [last_pos e1, last_neg e2] at e
      have := last_lt q h
      omega
    · by_cases e2 : x = q
      · rw [last_neg e1, last_pos e2] at e
        have := last_lt p h
        omega
      · rw [last_neg e1, last_neg e2] at e
        rw [last_neg e1]
        exact last_inj n e

/-! ### plans -/
/-- who is called, in the order of their last calls -/
def ordR : List Int → List Int
  | [] => []
  | x :: h => (ordR h).filter (fun y => decide (y ≠ x)) ++ [x]
theorem mem_ordR {p : Int} : ∀ {h : List Int}, p ∈ ordR h ↔ p ∈ h
  | [] => Iff.rfl
  | x :: h => by
    have ih := mem_ordR (p := p) (h := h)
    show p ∈ (ordR h).filter _ ++ [x] ↔ _
    rw [List.mem_append, List.mem_filter, ih, List.mem_singleton, List.mem_cons, decide_eq_true_iff]
    by_cases e : p = x
    · simp [e]
    · simp [e]
theorem nodup_ordR : ∀ h : List Int, (ordR h).Nodup
  | [] => List.nodup_nil
  | x :: h => by
    have ih := nodup_ordR h
    show ((ordR h).filter _ ++ [x]).Nodup
    refine List.nodup_append.mpr ⟨ih.filter _, by simp, fun a ha b hb e => ?_⟩
    have h1 := (List.mem_filter.mp ha).2
    rw [List.mem_singleton] at hb
    rw [decide_eq_true_iff] at h1
    exact h1 (e.trans hb)
theorem sorted_ordR : ∀ h : List Int, (ordR h).Pairwise (fun a b => last a h < last b h)
  | [] => List.Pairwise.nil
  | x :: h => by
    have ih := sorted_ordR h
    show ((ordR h).filter _ ++ [x]).Pairwise _
    refine List.pairwise_append.mpr ⟨?_, List.pairwise_singleton _ _, fun a ha b hb => ?_⟩
    · have ih2 := ih.filter (fun y => decide (y ≠ x))
      refine ih2.imp_of_mem fun {a b} ma mb r => ?_
      have na : a ≠ x := decide_eq_true_iff.mp (List.mem_filter.mp ma).2
      have nb : b ≠ x := decide_eq_true_iff.mp (List.mem_filter.mp mb).2
      rw [last_neg (fun z => na z.symm), last_neg (fun z => nb z.symm)]
      exact r
    · have na : a ≠ x := decide_eq_true_iff.mp (List.mem_filter.mp ha).2
      rw [List.mem_singleton] at hb
      rw [last_neg (fun z => na z.symm), last_pos hb.symm]
      exact last_lt a h
theorem idx_lt {α : Type} [BEq α] [LawfulBEq α] {R : α → α → Prop} {l : List α} (hp : l.Pairwise R) {a b : α} (ma : a ∈ l) (mb : b ∈ l) (h : l.idxOf a < l.idxOf b) : R a b := by
  have la := List.idxOf_lt_length_of_mem ma
  have lb := List.idxOf_lt_length_of_mem mb
  have z := (List.pairwise_iff_getElem.mp hp) _ _ la lb h
  rw [List.getElem_idxOf, List.getElem_idxOf] at z
  exact z
theorem idx_inj {α : Type} [BEq α] [LawfulBEq α] {l : List α} {a b : α} (ma : a ∈ l) (mb : b ∈ l) (h : l.idxOf a = l.idxOf b) : a = b := by
  have la := List.idxOf_lt_length_of_mem ma
  have ea : l[l.idxOf a]? = some a := by rw [List.getElem?_eq_getElem la, List.getElem_idxOf]
  have lb := List.idxOf_lt_length_of_mem mb
  have eb : l[l.idxOf b]? = some b := by rw [List.getElem?_eq_getElem lb, List.getElem_idxOf]
  rw [h, eb] at ea
  exact (Option.some.inj ea).symm
theorem ord_idx {h : List Int} {a b : Int} (n : a ≠ b) (ma : a ∈ h) (mb : b ∈ h) : (ordR h).idxOf a < (ordR h).idxOf b ↔ last a h < last b h := by
  have ma' := mem_ordR.mpr ma
  have mb' := mem_ordR.mpr mb
  refine ⟨fun q => idx_lt (sorted_ordR h) ma' mb' q, fun q => ?_⟩
  rcases Nat.lt_trichotomy ((ordR h).idxOf a) ((ordR h).idxOf b) with z | z | z
  · exact z
  · exact absurd (idx_inj ma' mb' z) n
  · have := idx_lt (sorted_ordR h) mb' ma' z
    omega

/-! ### lines -/
abbrev Lines := List (List Int)
/-- all people stand somewhere, each once -/
def Val (n c : Nat) (S : Lines) : Prop := S.length = c ∧ S.flatten.Perm ((List.range n).map fun i => ((i : Nat) : Int))
theorem range_nodup (n : Nat) : ((List.range n).map fun i => ((i : Nat) : Int)).Nodup := by
  refine List.Pairwise.map _ (fun a b h => ?_) (List.nodup_range (n := n))
  exact fun e => h (Int.ofNat.inj e)
theorem mem_range' {n : Nat} {y : Int} : y ∈ ((List.range n).map fun i => ((i : Nat) : Int)) ↔ 0 ≤ y ∧ y < (n : Int) := by
  rw [List.mem_map]
  refine ⟨fun ⟨i, hi, e⟩ => ?_, fun ⟨h0, h1⟩ => ⟨y.toNat, List.mem_range.mpr (by omega), by omega⟩⟩
  have := List.mem_range.mp hi
  omega
section
variable {n c : Nat} {S : Lines}
theorem Val.mem (v : Val n c S) {y : Int} : y ∈ S.flatten ↔ 0 ≤ y ∧ y < (n : Int) := (v.2.mem_iff).trans mem_range'
theorem Val.nd (v : Val n c S) : S.flatten.Nodup := (v.2.nodup_iff).mpr (range_nodup n)
theorem Val.len (v : Val n c S) : S.flatten.length = n := by
  rw [v.2.length_eq, List.length_map, List.length_range]
theorem nd_line : ∀ {S : Lines}, S.flatten.Nodup → ∀ l ∈ S, l.Nodup
  | [], _, _, m => by simp at m
  | a :: r, h, l, m => by
    rw [List.flatten_cons] at h
    obtain ⟨h1, h2, _⟩ := List.nodup_append.mp h
    rcases List.mem_cons.mp m with e | m
    · exact e ▸ h1
    · exact nd_line h2 l m
theorem len_line : ∀ {S : Lines} {l : List Int}, l ∈ S → l.length ≤ S.flatten.length
  | [], _, m => by simp at m
  | a :: r, l, m => by
    rw [List.flatten_cons, List.length_append]
    rcases List.mem_cons.mp m with e | m
    · rw [e]; omega
    · have := len_line m
      omega
theorem len_take : ∀ {S : Lines} {i : Nat}, (S.take i).flatten.length ≤ S.flatten.length
  | [], i => by simp
  | a :: r, 0 => by simp
  | a :: r, i + 1 => by
    have := len_take (S := r) (i := i)
    rw [List.take_succ_cons, List.flatten_cons, List.flatten_cons, List.length_append, List.length_append]
    omega
/-- the line in which p stands -/
def counterOf (S : Lines) (p : Int) : Nat := S.findIdx fun l => l.contains p
theorem counter_lt {p : Int} (m : p ∈ S.flatten) : counterOf S p < S.length := by
  obtain ⟨l, hl, hp⟩ := List.mem_flatten.mp m
  exact List.findIdx_lt_length_of_exists ⟨l, hl, by simpa using hp⟩
theorem counter_in {p : Int} (h : counterOf S p < S.length) : p ∈ S[counterOf S p] := by
  have z := List.findIdx_getElem (xs := S) (p := fun l : List Int => l.contains p) (w := h)
  exact List.contains_iff_mem.mp z
/-- two lines with one person are one line -/
theorem one_line : ∀ {S : Lines}, S.flatten.Nodup → ∀ (i j : Nat) (h1 : i < S.length) (h2 : j < S.length) (p : Int), p ∈ S[i] → p ∈ S[j] → i = j
  | [], _, i, _, h1, _, _, _, _ => by simp at h1
  | a :: r, h, 0, 0, _, _, _, _, _ => rfl
  | a :: r, h, 0, j + 1, _, h2, p, m1, m2 => by
    rw [List.flatten_cons] at h
    obtain ⟨_, _, h3⟩ := List.nodup_append.mp h
    have m1 : p ∈ a := m1
    have h2 : j < r.length := by rw [List.length_cons] at h2; omega
    have m2 : p ∈ r[j] := m2
    exact absurd rfl (h3 p m1 p (List.mem_flatten.mpr ⟨r[j], List.getElem_mem h2, m2⟩))
  | a :: r, h, i + 1, 0, h1, _, p, m1, m2 => by
    rw [List.flatten_cons] at h
    obtain ⟨_, _, h3⟩ := List.nodup_append.mp h
    have m2 : p ∈ a := m2
    have h1 : i < r.length := by rw [List.length_cons] at h1; omega
    have m1 : p ∈ r[i] := m1
    exact absurd rfl (h3 p m2 p (List.mem_flatten.mpr ⟨r[i], List.getElem_mem h1, m1⟩))
  | a :: r, h, i + 1, j + 1, h1, h2, p, m1, m2 => by
    rw [List.flatten_cons] at h
    obtain ⟨_, h2', _⟩ := List.nodup_append.mp h
    have h1 : i < r.length := by rw [List.length_cons] at h1; omega
    have h2 : j < r.length := by rw [List.length_cons] at h2; omega
    have m1 : p ∈ r[i] := m1
    have m2 : p ∈ r[j] := m2
    rw [one_line h2' i j h1 h2 p m1 m2]
theorem counter_is (hn : S.flatten.Nodup) {i : Nat} {p : Int} (h : i < S.length) (m : p ∈ S[i]) : counterOf S p = i := by
  have hl : counterOf S p < S.length := counter_lt (List.mem_flatten.mpr ⟨S[i], List.getElem_mem h, m⟩)
  exact one_line hn _ _ hl h p (counter_in hl) m

/-! ### a call -/
def out (S : Lines) (p : Int) : Lines := S.map fun l => l.filter fun y => decide (y ≠ p)
def callIn (S : Lines) (p : Int) : Lines :=
  (out S p).set ((counterOf S p + 1) % S.length) ((out S p).getD ((counterOf S p + 1) % S.length) [] ++ [p])
theorem out_len (p : Int) : (out S p).length = S.length := by unfold out; rw [List.length_map]
theorem call_len (p : Int) : (callIn S p).length = S.length := by unfold callIn; rw [List.length_set, out_len]
theorem out_flat (p : Int) : (out S p).flatten = S.flatten.filter fun y => decide (y ≠ p) := by
  unfold out
  rw [List.filter_flatten]
theorem set_flat : ∀ {S : Lines} {i : Nat} {p : Int}, i < S.length → ((S.set i (S.getD i [] ++ [p])).flatten).Perm (S.flatten ++ [p])
  | [], i, _, h => by simp at h
  | a :: r, 0, p, _ => by
    show ((a ++ [p]) ++ r.flatten).Perm ((a ++ r.flatten) ++ [p])
    rw [List.append_assoc, List.append_assoc]
    exact List.Perm.append_left a List.perm_append_comm
  | a :: r, i + 1, p, h => by
    have h' : i < r.length := by rw [List.length_cons] at h; omega
    have ih := set_flat (S := r) (i := i) (p := p) h'
    show (a ++ (r.set i (r.getD i [] ++ [p])).flatten).Perm ((a ++ r.flatten) ++ [p])
    rw [List.append_assoc]
    exact List.Perm.append_left a ih
theorem filter_back {l : List Int} {p : Int} (hn : l.Nodup) (m : p ∈ l) : (l.filter (fun y => decide (y ≠ p)) ++ [p]).Perm l := by
  have e : l.filter (fun y => decide (y ≠ p)) = l.erase p := by
    rw [hn.erase_eq_filter]
    refine List.filter_congr fun y _ => ?_
    by_cases z : y = p
    · simp [z]
    · simp [z]
  rw [e]
  exact (List.perm_append_comm).trans (List.perm_cons_erase m).symm
theorem Val.call (v : Val n c S) {p : Int} (h0 : 0 ≤ p) (h1 : p < (n : Int)) : Val n c (callIn S p) := by
  have m : p ∈ S.flatten := v.mem.mpr ⟨h0, h1⟩
  have hl := counter_lt m
  refine ⟨(call_len p).trans v.1, ?_⟩
  have hi : (counterOf S p + 1) % S.length < (out S p).length := by
    rw [out_len]
    exact Nat.mod_lt _ (by omega)
  refine (set_flat hi).trans ?_
  rw [out_flat]
  exact (filter_back v.nd m).trans v.2
/-! ### a row of calls -/
def after (S : Lines) : List Int → Lines
  | [] => S
  | x :: h => callIn (after S h) x
theorem Val.after (v : Val n c S) : ∀ {h : List Int}, (∀ p ∈ h, 0 ≤ p ∧ p < (n : Int)) → Val n c (after S h)
  | [], _ => v
  | x :: h, q => Val.call (Val.after v fun p m => q p (List.mem_cons_of_mem _ m)) (q x List.mem_cons_self).1 (q x List.mem_cons_self).2

/-! ### who stands ahead -/
def bef (S : Lines) (a b : Int) : Prop := ∃ l ∈ S, List.Sublist [a, b] l
def Rel (S0 : Lines) (h : List Int) (a b : Int) : Prop := last a h < last b h ∨ (a ∉ h ∧ b ∉ h ∧ bef S0 a b)
theorem pair_sub : ∀ {l : List Int}, l.Pairwise (fun a b => List.Sublist [a, b] l)
  | [] => List.Pairwise.nil
  | x :: r => by
    refine List.pairwise_cons.mpr ⟨fun b m => ?_, ?_⟩
    · exact List.Sublist.cons_cons x (List.singleton_sublist.mpr m)
    · exact (pair_sub (l := r)).imp fun z => z.cons x
theorem rel_out {S0 : Lines} {h : List Int} {l : List Int} {x : Int} (hp : l.Pairwise (Rel S0 h)) : (l.filter fun y => decide (y ≠ x)).Pairwise (Rel S0 (x :: h)) := by
  have h2 := hp.filter (fun y => decide (y ≠ x))
  refine h2.imp_of_mem fun {a b} ma mb r => ?_
  have na : a ≠ x := decide_eq_true_iff.mp (List.mem_filter.mp ma).2
  have nb : b ≠ x := decide_eq_true_iff.mp (List.mem_filter.mp mb).2
  rcases r with r | ⟨r1, r2, r3⟩
  · refine .inl ?_
    rw [last_neg (fun z => na z.symm), last_neg (fun z => nb z.symm)]
    exact r
  · refine .inr ⟨fun m => ?_, fun m => ?_, r3⟩
    · rcases List.mem_cons.mp m with z | z
      · exact na z
      · exact r1 z
    · rcases List.mem_cons.mp m with z | z
      · exact nb z
      · exact r2 z
theorem rel_end {S0 : Lines} {h : List Int} {l : List Int} {x : Int} (hp : l.Pairwise (Rel S0 (x :: h))) (hx : ∀ a ∈ l, a ≠ x) : (l ++ [x]).Pairwise (Rel S0 (x :: h)) := by
  refine List.pairwise_append.mpr ⟨hp, List.pairwise_singleton _ _, fun a ha b hb => .inl ?_⟩
  rw [List.mem_singleton] at hb
  rw [last_neg (fun z => hx a ha z.symm), last_pos hb.symm]
  exact last_lt a h
theorem rel_after {S0 : Lines} : ∀ {h : List Int}, ∀ l ∈ CkM.after S0 h, l.Pairwise (Rel S0 h)
  | [], l, m => by
    have m : l ∈ S0 := m
    exact (pair_sub (l := l)).imp fun z => .inr ⟨by simp, by simp, l, m, z⟩
  | x :: h, l, m => by
    have ih := rel_after (S0 := S0) (h := h)
    have ho : ∀ l ∈ out (CkM.after S0 h) x, l.Pairwise (Rel S0 (x :: h)) ∧ ∀ a ∈ l, a ≠ x := fun l ml => by
      obtain ⟨l', ml', e⟩ := List.mem_map.mp ml
      subst e
      exact ⟨rel_out (ih l' ml'), fun a ma => decide_eq_true_iff.mp (List.mem_filter.mp ma).2⟩
    have m : l ∈ (out (CkM.after S0 h) x).set _ _ := m
    rcases List.mem_or_eq_of_mem_set m with m | m
    · exact (ho l m).1
    · subst m
      by_cases hi : (counterOf (CkM.after S0 h) x + 1) % (CkM.after S0 h).length < (out (CkM.after S0 h) x).length
      · rw [List.getD_eq_getElem?_getD, List.getElem?_eq_getElem hi, Option.getD_some]
        obtain ⟨h1, h2⟩ := ho _ (List.getElem_mem hi)
        exact rel_end h1 h2
      · rw [List.getD_eq_getElem?_getD, List.getElem?_eq_none (by omega), Option.getD_none, List.nil_append]
        exact List.pairwise_singleton _ _
/-- what is_ahead finds: a stands ahead of b -/
def ahead (S : Lines) (a b : Int) : Bool := (S.getD (counterOf S a) []).contains b && decide ((S.getD (counterOf S a) []).idxOf a < (S.getD (counterOf S a) []).idxOf b)
theorem ahead_line (v : Val n c S) {a b : Int} (ha : 0 ≤ a ∧ a < (n : Int)) : ahead S a b = true → ∃ l ∈ S, a ∈ l ∧ b ∈ l ∧ l.idxOf a < l.idxOf b := by
  intro h
  have hl := counter_lt (v.mem.mpr ha)
  unfold ahead at h
  rw [List.getD_eq_getElem?_getD, List.getElem?_eq_getElem hl, Option.getD_some, Bool.and_eq_true, decide_eq_true_iff] at h
  exact ⟨_, List.getElem_mem hl, counter_in hl, by simpa using h.1, h.2⟩
theorem ahead_of (v : Val n c S) {a b : Int} {l : List Int} (hl : l ∈ S) (ha : a ∈ l) (hb : b ∈ l) (h : l.idxOf a < l.idxOf b) : ahead S a b = true := by
  obtain ⟨i, hi, e⟩ := List.getElem_of_mem hl
  subst e
  have z := counter_is v.nd hi ha
  unfold ahead
  rw [z, List.getD_eq_getElem?_getD, List.getElem?_eq_getElem hi, Option.getD_some, Bool.and_eq_true, decide_eq_true_iff]
  exact ⟨by simpa using hb, h⟩
theorem ahead_rel {S0 : Lines} {h : List Int} (v : Val n c (CkM.after S0 h)) {a b : Int} (ha : 0 ≤ a ∧ a < (n : Int)) (q : ahead (CkM.after S0 h) a b = true) : Rel S0 h a b := by
  obtain ⟨l, ml, ma, mb, i⟩ := ahead_line v ha q
  exact idx_lt (rel_after l ml) ma mb i
/-- who is due stands behind nobody -/
theorem due_ahead {S0 : Lines} {h : List Int} (v : Val n c (CkM.after S0 h)) {a b : Int} (ha : 0 ≤ a ∧ a < (n : Int)) (hl : last b h < last a h) : ahead (CkM.after S0 h) a b = false := by
  cases q : ahead (CkM.after S0 h) a b with
  | false => rfl
  | true =>
    rcases ahead_rel v ha q with r | ⟨r1, r2, _⟩
    · omega
    · rw [last_none.mpr r1, last_none.mpr r2] at hl
      omega
theorem idx_ne {x a : Int} {r : List Int} (h : x ≠ a) : (x :: r).idxOf a = r.idxOf a + 1 := by
  rw [List.idxOf_cons]
  have e : (x == a) = false := beq_eq_false_iff_ne.mpr h
  rw [e]
  rfl
theorem sub_idx : ∀ {l : List Int} {a b : Int}, l.Nodup → List.Sublist [a, b] l → a ∈ l ∧ b ∈ l ∧ l.idxOf a < l.idxOf b
  | [], a, b, _, s => by simp at s
  | x :: r, a, b, h, s => by
    obtain ⟨h1, h2⟩ := List.nodup_cons.mp h
    cases s with
    | cons _ s =>
      obtain ⟨ma, mb, i⟩ := sub_idx h2 s
      have na : x ≠ a := fun e => h1 (e ▸ ma)
      have nb : x ≠ b := fun e => h1 (e ▸ mb)
      refine ⟨List.mem_cons_of_mem _ ma, List.mem_cons_of_mem _ mb, ?_⟩
      rw [idx_ne na, idx_ne nb]
      omega
    | cons_cons _ s =>
      have mb : b ∈ r := List.singleton_sublist.mp s
      have nb : x ≠ b := fun e => h1 (e ▸ mb)
      refine ⟨List.mem_cons_self, List.mem_cons_of_mem _ mb, ?_⟩
      rw [List.idxOf_cons_self, idx_ne nb]
      omega
theorem bef_asym (v : Val n c S) {a b : Int} (h1 : bef S a b) (h2 : bef S b a) : False := by
  obtain ⟨l1, m1, s1⟩ := h1
  obtain ⟨l2, m2, s2⟩ := h2
  obtain ⟨i1, hi1, e1⟩ := List.getElem_of_mem m1
  obtain ⟨i2, hi2, e2⟩ := List.getElem_of_mem m2
  obtain ⟨a1, b1, k1⟩ := sub_idx (nd_line v.nd l1 m1) s1
  obtain ⟨b2, a2, k2⟩ := sub_idx (nd_line v.nd l2 m2) s2
  have e : i1 = i2 := one_line v.nd i1 i2 hi1 hi2 a (by rw [e1]; exact a1) (by rw [e2]; exact a2)
  subst e
  have e : l1 = l2 := e1.symm.trans e2
  subst e
  omega
/-- who is overtaken has been called -/
theorem over_called {S0 : Lines} {h : List Int} (v0 : Val n c S0) (v : Val n c (CkM.after S0 h)) {a b : Int} (hb : 0 ≤ b ∧ b < (n : Int)) (h0 : bef S0 a b) (q : ahead (CkM.after S0 h) b a = true) : a ∈ h := by
  rcases Classical.em (a ∈ h) with m | m
  · exact m
  · exfalso
    rcases ahead_rel v hb q with r | ⟨_, _, r⟩
    · rw [last_none.mpr m] at r
      have := last_ge b h
      omega
    · exact bef_asym v0 h0 r
/-- the pair that overtakings tells: b stands ahead of a in a's line -/
theorem behind_ahead (v : Val n c S) {a b : Int} (ha : 0 ≤ a ∧ a < (n : Int)) (h1 : b ∈ S.getD (counterOf S a) []) (h2 : (S.getD (counterOf S a) []).idxOf b < (S.getD (counterOf S a) []).idxOf a) : ahead S b a = true := by
  have hl := counter_lt (v.mem.mpr ha)
  rw [List.getD_eq_getElem?_getD, List.getElem?_eq_getElem hl, Option.getD_some] at h1 h2
  exact ahead_of v (List.getElem_mem hl) h1 (counter_in hl) h2
end
end CkM


set_option linter.all false
set_option maxRecDepth 100000
set_option maxHeartbeats 4000000
/-! Rules that the layer has not: enumerate of a tuple, count and index of a tuple of ints. -/
namespace CkR
open PySem PySem.Spec PyProof.Rows L2
theorem meets_enumerate_newB1 {v : Value} {o : Obj} {H : Heap → Prop} (B : Begins v o H) :
    Meets (Builtin.«enumerate.__new__» ⟨[.type "enumerate", v], []⟩) (fun _ R s => H s.heap ∧
      R (.ok (.ret (.ref (s.heap.push o).objs.size))) { s with heap := (s.heap.push o).push { cls := .type "enumerate", data := .fields #[.none, .bool false, .ref s.heap.objs.size, rawInt 0, .none, .none] } }) :=
  .of_wp fun prog w A R s h => by
    obtain ⟨hp, g, d, tk, os⟩ := s; obtain ⟨h1, h⟩ := h
    have hsub := sub_enumerate
    have q1 : ∀ {A' : Around} {E : Value → Shared → Prop} {Q : Value → Shared → Prop}, Q (.ref hp.objs.size) ⟨hp.push o, g, d, tk, os⟩ → wpAny (model prog w) A' (pyIter v) Q E ⟨hp, g, d, tk, os⟩ :=
      fun q => B.iter prog w _ _ ⟨hp, g, d, tk, os⟩ _ h1 q
    wp_walk using q1
    refine wpAny_stack_any fun st => wpAny_pure ?_
    split
    · rename_i c _ _ _ _ _
      cases (c == Value.type "enumerate")
      · wp_walk using q1
        exact ⟨_, rfl, h⟩
      · wp_walk using q1
        exact ⟨_, rfl, h⟩
    · wp_walk using q1
      exact ⟨_, rfl, h⟩
section
variable {prog : Program} {w : World} {A : Around} {E : Value → Shared → Prop} {s : Shared}
theorem enum_begins1 {v : Value} {o : Obj} {H : Heap → Prop} {Q : Value → Shared → Prop} (B : Begins v o H) (h1 : H s.heap)
    (h : ∀ h', IsEnum h' (s.heap.objs.size + 1) s.heap.objs.size 0 .none → h'.get? s.heap.objs.size = some o → h'.objs.size = s.heap.objs.size + 2 →
      (∀ b o, s.heap.get? b = some o → h'.get? b = some o) → Q (.ref (s.heap.objs.size + 1)) { s with heap := h' }) :
    wpAny (model prog w) A (call (.type "enumerate") [v]) Q E s := by
  refine callType_new F.called_enumerate (by decide) (F.typeCall_enumerate_1 _) (F.newCall_enumerate_1 _) (fun obj => F.args_object_init_2 obj _) F.entry_enumerate_new
    (meets_enumerate_newB1 B) ⟨h1, ?_⟩
  have hz : (s.heap.push o).objs.size = s.heap.objs.size + 1 := Heap.size_push ..
  show _ ∧ _
  rw [hz]
  have he : IsEnum ((s.heap.push o).push { cls := .type "enumerate", data := .fields #[.none, .bool false, .ref s.heap.objs.size, rawInt 0, .none, .none] }) (s.heap.objs.size + 1) s.heap.objs.size 0 .none := by
    have := Heap.get?_push_size (s.heap.push o) (o := { cls := .type "enumerate", data := .fields #[.none, .bool false, .ref s.heap.objs.size, rawInt 0, .none, .none] }) rfl
    rw [hz] at this; exact this
  refine ⟨⟨_, he, rfl⟩, h _ he (Heap.get?_push_of_some _ (Heap.get?_push_size _ B.free)) (by rw [Heap.size_push, hz]) fun b o x => Heap.get?_push_of_some _ (Heap.get?_push_of_some _ x)⟩
end
/-- the tuple at a, its items in new pairs with their places -/
def IteT (K : PySem.W.Frag) (a : Addr) : It :=
  ⟨fun i H => ∃ (xs : List V) (x : V), SqT K H a xs ∧ xs[i]? = some x, fun i H v H' => ∃ T x, v = .ref T ∧ H T = none ∧ H' = upd H T (.tup [.int (i : Nat), x]) ∧ ∀ xs, SqT K H a xs → xs[i]? = some x, fun i H => ∃ xs : List V, SqT K H a xs ∧ xs.length ≤ i⟩
theorem turn_enumT {P : Program} {w : World} {K : PySem.W.Frag} {elts : List Expr} {kk : Nat} {tpos : Pos} (a e it : Addr) :
    Turn P w K (.Tuple elts kk tpos) (IteT K a) [e, it] e (fun i h => (∃ old, IsEnum h e it ((i : Nat) : Int) old) ∧ h.IsTupleIter it a i ∧ e ≠ it ∧ e ≠ a ∧ a ≠ it) where
  mem := by simp
  obj := fun i h st b hb => by
    obtain ⟨⟨old, he⟩, ⟨o, ho, hc, hd⟩, _⟩ := st
    have e' : b = e ∨ b = it := by simpa using hb
    rcases e' with z | z
    · rw [z]; exact ⟨_, he, fun v q => nomatch q⟩
    · rw [z]; exact ⟨o, ho, fun v q => by rw [hd] at q; cases q⟩
  keep := fun i h h' st k => let ⟨⟨old, he⟩, hi, hne⟩ := st; ⟨⟨old, k e (by simp) _ he⟩, hi.at fun o q => k it (by simp) o q, hne⟩
  item := by
    intro X hP hw hK hc i pins s σ H E I hf st hg
    subst hP hw hK
    obtain ⟨⟨old, he⟩, hit, hne, hea, hai⟩ := st
    obtain ⟨xs, x, hq, hx⟩ := hg
    obtain ⟨its, rv, p, hz⟩ := I.tuple hq
    obtain ⟨u, hu, ru⟩ := rv.get hx
    have hel : e < s.heap.objs.size := Heap.lt_size he
    have hil : it < s.heap.objs.size := by obtain ⟨_, q, _⟩ := hit; exact Heap.lt_size q
    have hd : X.A.handled = none := I.ok.hd hc
    have hi : i < its.toArray.size := by
      obtain ⟨h1, _⟩ := List.getElem?_eq_some_iff.mp hu
      simpa using h1
    refine wpAny_pyNext_enum_itemD (Draws.tuple (A := X.A.in1) hd it a hai its.toArray) he ⟨hit, p⟩ hi hne (by simp [hne, hea]) fun x' h' tk hx' ho hit' hT hsz hk => ?_
    have ex : x' = u := by
      have z : its.toArray[i]? = some u := by simpa using hu
      rw [z] at hx'
      exact (Option.some.inj hx').symm
    subst ex
    refine ⟨_, rfl, wpAny_letOwnedTupleGo_enum (s := { s with heap := h', toks := tk + 1 }) ho fun h'' he' sb => ?_⟩
    have hT2 : h''.get? s.heap.objs.size = some { cls := .type "tuple", data := .seq #[.int i tk, x'] } := (sb.2 _ (Nat.ne_of_gt hel)).trans hT
    have new : ObjOk X.prog X.w (upd H s.heap.objs.size (.tup [.int (i : Nat), x])) h'' s.heap.objs.size (.tup [.int (i : Nat), x]) :=
      ⟨by show 2 ≤ sizeLine; decide, [.int i tk, x'], .cons ⟨_, rfl⟩ (.cons ru .nil), ⟨_, hT2, rfl, _, rfl⟩⟩
    have I1 : Inv X pins σ (upd H s.heap.objs.size (.tup [.int (i : Nat), x])) { s with heap := h'', toks := tk + 1 } :=
      I.turnedNew (ch := [e, it]) (fun b ob hb q => (sb.2 b (fun z => hb (by simp [z]))).trans (hk b ob (fun z => hb (by simp [z])) (fun z => hb (by simp [z])) q)) hf (Nat.le_refl _) new
    refine ⟨.ref s.heap.objs.size, _, I1, rfl, ⟨_, x, rfl, I.hok.fresh (Nat.le_refl _), rfl, fun ys hy => by rw [I.tuple_inj hy hq]; exact hx⟩, ⟨⟨x', ?_⟩, hit'.1.at fun o q => (sb.2 it (Ne.symm hne)).trans q, hne, hea, hai⟩, fun b hb => ?_⟩
    · have e1 : ((i + 1 : Nat) : Int) = (i : Int) + 1 := by omega
      rw [e1]; exact he'
    · have hb' : b < s.heap.objs.size := by
        have e' : b = e ∨ b = it := by simpa using hb
        rcases e' with z | z
        · rw [z]; exact hel
        · rw [z]; exact hil
      rw [upd_ne (Nat.ne_of_lt hb')]
      exact (hf b hb).1
  done := by
    intro X hP hw hK hc i pins s σ H E I hf st hg
    subst hP hw hK
    obtain ⟨⟨old, he⟩, hit, hne, hea, hai⟩ := st
    obtain ⟨xs, hq, hx⟩ := hg
    obtain ⟨its, rv, p, hz⟩ := I.tuple hq
    obtain ⟨f0, f1, f2, f3, f4, f5⟩ := hf it (by simp)
    have hl := rv.length
    have hd : X.A.handled = none := I.ok.hd hc
    have T : s.TypeIs (.ref e) "enumerate" := ⟨_, he, rfl⟩
    unfold pyNext
    refine wpAny_bind (wpAny_attempt (wpAny_callSpecial?_slot (name := Str.ofString "__next__") T F.slot_enumerate_next
      (wpAny_call_entry F.slot_enumerate_next T F.entry_enumerate_next ?_ (F.args_enumerate_next_1 _))))
    show wpAny _ _ (field (.ref e) 2 >>= _) _ _ _
    refine wpAny_bind (wpAny_field he rfl (x := .ref it) rfl ?_)
    refine wpAny_bind (wpAny_nextOf_tuple_end hd hit (show s.heap.IsTuple a its.toArray from p) (by simp; omega) fun h' x he' hx' => ?_)
    obtain ⟨o, ho, hc'⟩ := hx'
    refine wpAny_bind (wpAny_isInstance (T := "StopIteration") (b := true) ⟨o, ho, hc'⟩ isSubtype_stop ?_)
    exact wpAny_pure ⟨rfl, I.turned (t' := s.toks) (fun b o hb q => he' b o hb q) f0 f1 f3 f4 f5⟩
  self := fun A i s Q E st h => let ⟨⟨_, he⟩, _⟩ := st; wpAny_pyIter_enum he h
def iEnumT (K : PySem.W.Frag) (ta : TA) : TI := fun σ H R => ta σ H fun vs H1 => ∃ a xs, vs = [.ref a] ∧ SqT K H1 a xs ∧ R (IteT K a) H1
theorem pi_enumT {X : Cx} {e : Expr} {ta : TA} {p pos tpos : Pos} {elts : List Expr} {kk : Nat} (hg : Gl X "enumerate") (hm : X.mg "enumerate" = none) (ha : PA X [e] ta) (hs : starEach [e] X.env = [(false, eval e X.env)] := by rfl) :
    PI X (.Tuple elts kk tpos) (.Call (.Name "enumerate" p) [e] [] pos) (iEnumT X.K ta) := by
  refine ⟨fun pins s σ H R I h => ?_⟩
  refine Call_ (ld_blt I hg hm boot_enumerate (PyProof.Rows.callWith_type1 (thn (ha.run pos pins s σ H _ I h) fun us s1 ⟨vs, H1, I1, r1, q1⟩ => ?_) hs rfl))
  obtain ⟨a, xs, ex, hq, q⟩ := q1
  subst ex
  cases r1 with
  | cons r rr =>
    cases rr
    cases r
    obtain ⟨its, rv, p', hz⟩ := I1.tuple hq
    have hal : a < s1.heap.objs.size := p'.lt
    refine enum_begins1 (begins_tuple a its.toArray) p' fun h' he hit hsz hk => wpAny_pyIter_enum he ?_
    have I2 : Inv X pins σ H1 { s1 with heap := h' } := I1.kept (t' := s1.toks) hk
    refine ⟨s1.heap.objs.size + 1, [s1.heap.objs.size + 1, s1.heap.objs.size], _, _, H1, rfl, I2, turn_enumT a (s1.heap.objs.size + 1) s1.heap.objs.size, ⟨⟨.none, he⟩, ⟨_, hit, rfl, rfl⟩, Nat.succ_ne_self _, ?_, Nat.ne_of_lt hal⟩, fun b hb => ?_, q⟩
    · exact fun z => absurd (z ▸ hal : s1.heap.objs.size + 1 < s1.heap.objs.size) (by omega)
    · have e' : b = s1.heap.objs.size + 1 ∨ b = s1.heap.objs.size := by simpa using hb
      have hle : s1.heap.objs.size ≤ b := by
        rcases e' with z | z
        · rw [z]; exact Nat.le_add_right _ _
        · rw [z]; exact Nat.le_refl _
      exact I1.fpOk hle (I1.hok.fresh hle)
theorem walk_enumT {K : PySem.W.Frag} {a : Addr} {xs : List V} : Walk (IteT K a) xs.length (fun H => SqT K H a xs) (YPair (fun i => some (.int (i : Nat))) (fun i => xs[i]?)) := by
  refine ⟨fun i _ hi q => ⟨xs, xs[i], q, by simp [hi]⟩, fun _ q => ⟨xs, q, Nat.le_refl _⟩, fun i H v H' _ q y => ?_⟩
  obtain ⟨T, x, h1, h2, h3, h4⟩ := y
  exact ⟨T, .int (i : Nat), x, h1, h2, h3, rfl, h4 xs q⟩
section
variable {X : Cx}
/-- t.index(k), t a tuple of ints, k there -/
def rTIdx (K : PySem.W.Frag) : V → List V → Hp → VK → Prop := fun x xs H Q => ∃ (p : Addr) (ns : List Int) (k : Int), x = .ref p ∧ xs = [.int k] ∧ SqT K H p (ns.map V.int) ∧ k ∈ ns ∧ Q (.int (ns.idxOf k : Nat)) H
theorem mt_tindex : MtR X "tuple.index" (rTIdx X.K) := by
  intro pins s σ H x xs v us Q I rx rxs h
  obtain ⟨p, ns, k, rfl, rfl, hs, hk, q⟩ := h
  cases rx
  obtain ⟨u, rfl, ru⟩ := rxs.one
  obtain ⟨t, rfl⟩ := ru
  obtain ⟨its, rv, pl, hz⟩ := I.tuple hs
  exact PySem.SeqAt.tuple_index_ints pl (ints_of_vals rv) hk ⟨.int (ns.idxOf k : Nat), H, I.tok _, ⟨_, rfl⟩, q⟩
/-- t.count(k), t a tuple of ints -/
def rTCnt (K : PySem.W.Frag) : V → List V → Hp → VK → Prop := fun x xs H Q => ∃ (p : Addr) (ns : List Int) (k : Int), x = .ref p ∧ xs = [.int k] ∧ SqT K H p (ns.map V.int) ∧ Q (.int (ns.count k : Nat)) H
theorem mt_tcount : MtR X "tuple.count" (rTCnt X.K) := by
  intro pins s σ H x xs v us Q I rx rxs h
  obtain ⟨p, ns, k, rfl, rfl, hs, q⟩ := h
  cases rx
  obtain ⟨u, rfl, ru⟩ := rxs.one
  obtain ⟨t, rfl⟩ := ru
  obtain ⟨its, rv, ⟨⟨cls, dd, data, sl⟩, ho, hc, n, hd⟩, hlen⟩ := I.tuple hs
  simp only at hc hd
  subst hc hd
  have hi := ints_of_vals rv
  refine call_meets PySem.F.slot_tuple_count ⟨_, ho, rfl⟩ PySem.F.entry_tuple_count (PySem.F.args_tuple_count_2 _ _)
    (SeqAt.tuple_countAt p its.toArray n dd sl (.int k t) (eqk k)) ⟨ho, fun y hy => (eqk_gives hi y (by simpa using hy)).at _ _, ?_⟩
  have ec : its.toArray.toList.countP (eqk k) = ns.count k := eqk_count hi
  refine ⟨.int (ns.count k : Nat), H, I.tok _, ⟨s.toks, ?_⟩, q⟩
  show Value.int ((its.toArray.toList.countP (eqk k) : Nat) : Int) s.toks = Value.int ((ns.count k : Nat) : Int) s.toks
  rw [ec]
end
/-! ### the rules that speak of the written part, for use within a comprehension's block -/
section
variable {X : Cx} {K : PySem.W.Frag}
theorem pg_tupK {es : List Expr} {n : Nat} {k : Nat} {pos : Pos} {t : TGs} (hK : X.K = K) (hc : X.calm = true) (h : PGs X es t) (hn : (assignEach es X.env).length = n := by rfl) (hst : (assignEach es X.env).findIdx? (·.1) = none := by rfl) :
    PG X (.Tuple es k pos) (gTup K n t) := by
  subst hK
  exact pg_tup hc h hn hst
theorem op_inK (hK : X.K = K) : OpR X (compareOp .In) (rIn K false) := by
  subst hK
  exact op_in_seq
theorem op_notInK (hK : X.K = K) : OpR X (compareOp .NotIn) (rIn K true) := by
  subst hK
  exact op_notIn_seq
theorem ix_tupK (hK : X.K = K) : IxR X (rIxT K) := by
  subst hK
  exact ix_tup
theorem ix_listK (hK : X.K = K) : IxR X (rIxL K) := by
  subst hK
  exact ix_list
theorem pi_enumTK {e : Expr} {ta : TA} {p pos tpos : Pos} {elts : List Expr} {kk : Nat} (hK : X.K = K) (hg : Gl X "enumerate") (hm : X.mg "enumerate" = none) (ha : PA X [e] ta) (hs : starEach [e] X.env = [(false, eval e X.env)] := by rfl) :
    PI X (.Tuple elts kk tpos) (.Call (.Name "enumerate" p) [e] [] pos) (iEnumT K ta) := by
  subst hK
  exact pi_enumT hg hm ha hs
theorem pi_tupK {tg l : Expr} {tl : TE} (hK : X.K = K) (hl : PE X l tl) : PI X tg l (iTup K tl) := by
  subst hK
  exact pi_tup hl
theorem pi_listK {tg l : Expr} {tl : TE} (hK : X.K = K) (hl : PE X l tl) : PI X tg l (iList K tl) := by
  subst hK
  exact pi_list hl
def rTupOf (K : PySem.W.Frag) : List V → Hp → VK → Prop := fun xs H Q => ∃ p ys, xs = [V.ref p] ∧ ((SqL K H p ys ∧ ∀ l, H l = none → Q (.ref l) (upd H l (.tup ys))) ∨ (SqT K H p ys ∧ Q (.ref p) H))
theorem call_tupOfK (hK : X.K = K) : CallR X (.type "tuple") (rTupOf K) := by
  subst hK
  exact call_tuple_of
theorem cr_maxK (hK : X.K = K) (hc : X.calm = true) : CallR X (.builtin "max") (rMax K) := by
  subst hK
  exact cr_max hc
end
/-! ### tuples told with their object (no dict of their own): their methods -/
/-- a tuple that is known to its object -/
def TuO (H : Hp) (a : Addr) (xs : List V) : Prop := ∃ o : Obj, H a = some (.frz o (.tup xs)) ∧ o.dict = none
theorem TuO.ex {H H' : Hp} {a : Addr} {xs : List V} (t : TuO H a xs) (e : Evl.Ex H H') : TuO H' a xs := by
  obtain ⟨o, h, d⟩ := t
  exact ⟨o, e _ _ h, d⟩
theorem TuO.rd {H : Hp} {a : Addr} {xs : List V} (t : TuO H a xs) : Rd H a (.tup xs) := by
  obtain ⟨o, h, d⟩ := t
  exact .inr ⟨o, h⟩
theorem TuO.sq {K : PySem.W.Frag} {H : Hp} {a : Addr} {xs : List V} (t : TuO H a xs) : SqT K H a xs := .inl t.rd
theorem TuO.new {H : Hp} {a : Addr} {xs : List V} {o : Obj} (d : o.dict = none) : TuO (upd H a (.frz o (.tup xs))) a xs := ⟨o, upd_same, d⟩
theorem TuO.ne {H : Hp} {a b : Addr} {xs ys : List V} (t : TuO H a xs) (h : H b = some (.lst ys)) : a ≠ b := by
  obtain ⟨o, h1, _⟩ := t
  exact ne_of h1 h (by intro z; cases z)
theorem TuO.mut {H : Hp} {a b : Addr} {xs ys : List V} {u : HO} (t : TuO H a xs) (h : H b = some (.lst ys)) : TuO (upd H b u) a xs := by
  have n := t.ne h
  obtain ⟨o, h1, d⟩ := t
  exact ⟨o, by rw [upd_ne n]; exact h1, d⟩
section
variable {X : Cx} {K : PySem.W.Frag}
def rTupF (K : PySem.W.Frag) : List V → Hp → VK → Prop := fun xs H Q => ∃ p ys, xs = [V.ref p] ∧ SqL K H p ys ∧ ∀ (l : Addr) (o : Obj), H l = none → o.dict = none → Q (.ref l) (upd H l (.frz o (.tup ys)))
theorem call_tupF (hK : X.K = K) : CallR X (.type "tuple") (rTupF K) := by
  subst hK
  intro pins s σ H xs us Q I r h
  obtain ⟨p, ys, rfl, hq, q⟩ := h
  obtain ⟨u, rfl, rx⟩ := vals1 r
  cases rx
  obtain ⟨its, r', pl, hz⟩ := I.list hq
  have hlen := r'.length
  refine call_tuple_list pl.isList (fun h' kp => ?_) (by simp only [List.size_toArray] <;> omega)
  have I1 : Inv X pins σ H { s with heap := h' } := I.kept (t' := s.toks) kp
  have I2 : Inv X pins σ (upd H h'.objs.size (.frz { cls := .type "tuple", data := .seq its.toArray } (.tup ys))) { s with heap := h'.push { cls := .type "tuple", data := .seq its.toArray } } :=
    I1.laid (t' := s.toks) (fun b o e => Heap.get?_push_of_some _ e) (Nat.le_refl _) (show ObjOk X.prog X.w _ _ _ (.frz _ (.tup ys)) from ⟨Heap.get?_push_size _ rfl, hz, its, r', IsTup.new _ _⟩)
  exact ⟨.ref h'.objs.size, _, I2, rfl, q _ _ (I1.hok.fresh (Nat.le_refl _)) rfl⟩
def tTupF (t : TA) : TE := fun σ H Q => t σ H fun xs H1 => xs.length ≤ sizeLine ∧ ∀ (p : Addr) (o : Obj), H1 p = none → o.dict = none → Q (.ref p) (upd H1 p (.frz o (.tup xs)))
theorem pe_tupF {es : List Expr} {t : TA} {pos : Pos} {x1} (h : PA X es t) : PE X (.Tuple es x1 pos) (tTupF t) := by
  refine ⟨fun pins s σ H Q I hq => ?_⟩
  refine wpAny_Tuple_spliced (thn (h.run pos pins s σ H _ I hq) fun us s1 ⟨xs, H1, I1, r, z, q⟩ => ⟨by rw [← r.length]; exact z, ?_⟩)
  have hf : H1 s1.heap.objs.size = none := I1.hok.fresh (Nat.le_refl _)
  refine ⟨.ref s1.heap.objs.size, upd H1 s1.heap.objs.size (.frz { cls := .type "tuple", data := .seq us.toArray } (.tup xs)), I1.laid (t' := s1.toks) (fun b u e => Heap.get?_push_of_some _ e) (Nat.le_refl _) ?_, rfl, q _ _ hf rfl⟩
  exact ⟨Heap.get?_push_size _ rfl, z, us, r, ⟨_, Heap.get?_push_size _ rfl, rfl, _, rfl⟩⟩
/-- a method of a tuple that is known to its object -/
def tBMT (r : V → List V → Hp → VK → Prop) (to : TE) (t : TA) : TE := fun σ H Q => to σ H fun x H1 => (∃ p xs, x = .ref p ∧ TuO H1 p xs) ∧ t σ H1 fun xs H2 => r x xs H2 Q
theorem pe_bmT {o e : Expr} {es : List Expr} {to : TE} {t : TA} {name : Str} {apos cpos : Pos} {id : String} {r : V → List V → Hp → VK → Prop}
    (slot : Slot "tuple" name id) (hty : typeOf (.builtin id) = pure (.type "method_descriptor")) (hm : MtR X id r) (ho : PE X o to) (ha : PA X (e :: es) t)
    (hbase : attributeBase o name X.env (eval o X.env) = eval o X.env := by rfl)
    (hfew : ((backTo cpos (starEach (e :: es) X.env)).all (fun x => !x.1) && (backToKw cpos (keywordEach [] X.env)).all (fun x => x.1.isSome)
      && decide ((e :: es).length + ([] : List Keyword).length + (if ([] : List Keyword).isEmpty then 0 else 1) < 30)) = true := by rfl)
    (hline : (apos.endLine == cpos.line) = true := by rfl) (hs : starEach (e :: es) X.env = (false, eval e X.env) :: starEach es X.env := by rfl) (hplain : (backTo cpos (starEach es X.env)).any (·.1) = false := by rfl) :
    PE X (.Call (.Attribute o name apos) (e :: es) [] cpos) (tBMT r to t) := by
  refine ⟨fun pins s σ H Q I h => ?_⟩
  refine wpAny_Call_method_late hbase hfew hline rfl (thn (ho.run pins s σ H _ I h) fun v s1 ⟨x, H1, I1, r1, ty, q1⟩ => ?_)
  obtain ⟨p, xs, rfl, ob, hp, hd⟩ := ty
  obtain rfl : v = Value.ref p := r1
  obtain ⟨g, _, its, _, ob', g', hc, _⟩ := I1.hok p _ hp
  have eo : ob' = ob := Option.some.inj (g'.symm.trans g)
  subst eo
  refine ⟨"tuple", id, PySem.F.plainAttrs_tuple, slot, hty, ⟨ob', g, hc⟩, fun a e => ?_, ?_⟩
  · cases e
    exact ⟨ob', g, hd⟩
  · have hA := ha.run cpos pins s1 σ H1 _ I1 q1
    rw [hs] at hA ⊢
    refine Calls.callWith_builtin (by show (false || (backTo cpos (starEach es X.env)).any (·.1)) = false; rw [hplain] <;> rfl) (Calls.evalArgs_plain ?_)
    exact thn hA fun us s2 ⟨vs, H2, I2, r2, q2⟩ => hm pins s2 σ H2 (.ref p) vs _ us Q I2 (show RelV (.ref p) (Value.ref p) from rfl) r2 q2
end
end CkR


set_option linter.all false
set_option maxRecDepth 100000
set_option maxHeartbeats 4000000
/-! The text by places, the built-ins, the small checks. -/
namespace CkD
open PySem PySem.Spec PyProof.Rows L2 CkR
open Evl (Ex)
def topS (i : Nat) : Stmt := PySem.Challenge.pw_counterlines_k70_whole_orders_by_calls.main.body.getD i (.Pass ⟨0, 0, 0, 0⟩)
abbrev sIsInt : Stmt := topS 1
abbrev sIsIn : Stmt := topS 2
abbrev sIsList : Stmt := topS 3
abbrev sNeedOffice : Stmt := topS 13
abbrev sNeedLines : Stmt := topS 14
abbrev sNeedState : Stmt := topS 15
abbrev sNeedPerson : Stmt := topS 16
abbrev sCounterOf : Stmt := topS 17
abbrev sNeedCalls : Stmt := topS 20
abbrev sCallIn : Stmt := topS 21
abbrev sStoryIn : Stmt := topS 22
abbrev sAfter : Stmt := topS 23
abbrev sNeedPair : Stmt := topS 25
abbrev sMovedGap : Stmt := topS 26
abbrev sAheadBy : Stmt := topS 27
abbrev sIsAhead : Stmt := topS 28
abbrev sOvertakings : Stmt := topS 29
abbrev sFullPlan : Stmt := topS 31
abbrev sPlanOf : Stmt := topS 32
abbrev sLastCalls : Stmt := topS 33
abbrev sTaken : Stmt := topS 35
abbrev sDrawState : Stmt := topS 36
abbrev sDrawRow : Stmt := topS 37
abbrev sLaw : Stmt := topS 38
/-- the built-ins that the text calls, and its constants -/
structure Bl (mg : Str → Option Value) : Prop where
  isi : mg "isinstance" = none
  int : mg "int" = none
  bool : mg "bool" = none
  tup : mg "tuple" = none
  len : mg "len" = none
  enu : mg "enumerate" = none
  max : mg "max" = none
  srt : mg "sorted" = none
  rng : mg "range" = none
  lst : mg "list" = none
  mp7 : ∃ t, mg "MOST_PEOPLE" = some (.int 7 t)
  mc6 : ∃ t, mg "MOST_COUNTERS" = some (.int 6 t)
  mk60 : ∃ t, mg "MOST_CALLS" = some (.int 60 t)
theorem b_isi : bootBuiltins "isinstance" = some (.builtin "isinstance") := by decide +kernel
theorem b_len : bootBuiltins "len" = some (.builtin "len") := by decide +kernel
theorem b_max : bootBuiltins "max" = some (.builtin "max") := by decide +kernel
theorem b_srt : bootBuiltins "sorted" = some (.builtin "sorted") := by decide +kernel
theorem b_int : bootBuiltins "int" = some (.type "int") := by decide +kernel
theorem b_bool : bootBuiltins "bool" = some (.type "bool") := by decide +kernel
theorem b_tup : bootBuiltins "tuple" = some (.type "tuple") := by decide +kernel
theorem b_lst : bootBuiltins "list" = some (.type "list") := by decide +kernel
theorem k_ii : kitB "int" "int" = some true := by decide +kernel
theorem k_ib : kitB "int" "bool" = some false := by decide +kernel
theorem k_tt : kitB "tuple" "tuple" = some true := by decide +kernel
/-- a def that stands at f under its own name -/
structure Df (K : PySem.W.Frag) (mg : Str → Option Value) (x : Str) (st : Stmt) (f : Addr) (fd : FuncData) : Prop where
  F : Fun K x x st f fd
  g : mg x = some (.ref f)
/-- the heap has grown -/
abbrev RetV := @Evl.RetV
section
variable {P : Program} {w : World} {K : PySem.W.Frag} {mg : Str → Option Value} {base : Heap}
/-! ### is_integer, is_in, is_list -/
def spIsInt : Sp := fun vs H Q _ => ∃ i : Int, vs = [.int i] ∧ Q (.bl true) H
theorem scIsInt : FnScope ["value"] ["value"] (defScope sIsInt) := ⟨rfl, rfl, rfl, by decide +kernel, rfl, by decide +kernel, by decide +kernel⟩
theorem ok_isInt {f : Addr} {fd : FuncData} (D : Df K mg "is_integer" sIsInt f fd) (B : Bl mg) : FnOk P w K mg base CX0 1 f fd ["value"] spIsInt := by
  refine D.F.ok scIsInt (fun vs H Q E h => ?_) (fun cdv A outer s H vs Q E hr h => ?_)
  · obtain ⟨i, rfl, _⟩ := h
    rfl
  · obtain ⟨i, rfl, q⟩ := h
    refine ⟨_, pss_one (ps_ret (pe_and (pe_callB call_isi (by rfl) B.isi b_isi (pa_cons (pv 0) (pa_cons (pe_bltn (by rfl) B.int b_int (v := .ty "int") rfl) pa_nil)))
      (pe_one (pe_not (pe_callB call_isi (by rfl) B.isi b_isi (pa_cons (pv 0) (pa_cons (pe_bltn (by rfl) B.bool b_bool (v := .ty "bool") rfl) pa_nil))))))), ?_⟩
    refine ⟨.int i, rfl, .int i, .ty "int", _, _, true, rfl, .ty "int", .base (.int i), kit_ty k_ii, true, rfl, ?_⟩
    refine iteT ?_
    exact ⟨.int i, rfl, .int i, .ty "bool", _, _, false, rfl, .ty "bool", .base (.int i), kit_ty k_ib, false, rfl, q⟩
def spIsIn : Sp := fun vs H Q _ => ∃ i lo hi : Int, vs = [.int i, .int lo, .int hi] ∧ Q (.bl (decide (lo ≤ i) && decide (i ≤ hi))) H
theorem scIsIn : FnScope ["value", "least", "most"] ["value", "least", "most"] (defScope sIsIn) := ⟨rfl, rfl, rfl, by decide +kernel, rfl, by decide +kernel, by decide +kernel⟩
theorem ok_isIn {f f1 : Addr} {fd fd1 : FuncData} (D : Df K mg "is_in" sIsIn f fd) (D1 : Df K mg "is_integer" sIsInt f1 fd1) (B : Bl mg) : FnOk P w K mg base CX0 2 f fd ["value", "least", "most"] spIsIn := by
  have G1 : FnOk P w K mg base CX0 1 f1 fd1 ["value"] spIsInt := ok_isInt D1 B
  have b1 := D1.F.binds (ps := ["value"]) fun _ _ _ _ _ _ us hl => match us, hl with | [_], _ => rfl
  refine D.F.ok scIsIn (fun vs H Q E h => ?_) (fun cdv A outer s H vs Q E hr h => ?_)
  · obtain ⟨i, lo, hi, rfl, _⟩ := h
    rfl
  · obtain ⟨i, lo, hi, rfl, q⟩ := h
    refine ⟨_, pss_one (ps_ret (pe_and (pe_call G1 hr (by rfl) D1.g D1.F.kp b1 .nil pass0 (pa_cons (pv 0) pa_nil)) (pe_one (pe_chain op_le op_le (pv 1) (pv 0) (pv 2))))), ?_⟩
    refine ⟨.int i, rfl, i, rfl, true, rfl, iteT ?_⟩
    refine ⟨.int lo, rfl, .int i, rfl, lo, i, rfl, rfl, _, rfl, ?_⟩
    cases e : decide (lo ≤ i) with
    | true =>
      refine iteT ⟨.int hi, rfl, i, hi, rfl, rfl, ?_⟩
      rw [e] at q
      exact q
    | false =>
      refine iteF ?_
      rw [e] at q
      exact q
def spIsList : Sp := fun vs H Q _ => ∃ (a : Addr) (xs : List V) (lo hi : Int), vs = [.ref a, .int lo, .int hi] ∧ Rd H a (.tup xs) ∧ Q (.bl (decide (lo ≤ (xs.length : Int)) && decide ((xs.length : Int) ≤ hi))) H
theorem scIsList : FnScope ["value", "least", "most"] ["value", "least", "most"] (defScope sIsList) := ⟨rfl, rfl, rfl, by decide +kernel, rfl, by decide +kernel, by decide +kernel⟩
theorem ok_isList {f : Addr} {fd : FuncData} (D : Df K mg "is_list" sIsList f fd) (B : Bl mg) : FnOk P w K mg base CX0 1 f fd ["value", "least", "most"] spIsList := by
  refine D.F.ok scIsList (fun vs H Q E h => ?_) (fun cdv A outer s H vs Q E hr h => ?_)
  · obtain ⟨a, xs, lo, hi, rfl, _⟩ := h
    rfl
  · obtain ⟨a, xs, lo, hi, rfl, ha, q⟩ := h
    refine ⟨_, pss_one (ps_ret (pe_and (pe_callB call_isi (by rfl) B.isi b_isi (pa_cons (pv 0) (pa_cons (pe_bltn (by rfl) B.tup b_tup (v := .ty "tuple") rfl) pa_nil)))
      (pe_one (pe_chain op_le op_le (pv 1) (pe_callB call_len_seq (by rfl) B.len b_len (pa_cons (pv 0) pa_nil)) (pv 2))))), ?_⟩
    have ty : TyX K H (.ref a) (.type "tuple") := by
      rcases ha with ha | ⟨o, ha⟩
      · exact .base (.tup ha)
      · exact .fTuple ha
    refine ⟨.ref a, rfl, .ref a, .ty "tuple", _, _, true, rfl, .ty "tuple", ty, kit_ty k_tt, true, rfl, iteT ?_⟩
    refine ⟨.int lo, rfl, .ref a, rfl, a, xs, rfl, .inr (.inl ha), lo, _, rfl, rfl, _, rfl, ?_⟩
    cases e : decide (lo ≤ (xs.length : Int)) with
    | true =>
      refine iteT ⟨.int hi, rfl, _, hi, rfl, rfl, ?_⟩
      rw [e] at q
      exact q
    | false =>
      refine iteF ?_
      rw [e] at q
      exact q
end
end CkD


set_option linter.all false
set_option maxRecDepth 100000
set_option maxHeartbeats 4000000
/-! need_office, need_person, need_pair, need_calls, need_lines, need_state. -/
namespace CkD
open PySem PySem.Spec PyProof.Rows L2 CkR CkM
open Evl (Ex)
/-- a def with its promise, as its callers want it -/
structure Cal (P : Program) (w : World) (K : PySem.W.Frag) (mg : Str → Option Value) (base : Heap) (k : Nat) (x : Str) (ps : List Str) (sp : Sp) (f : Addr) (fd : FuncData) : Prop where
  ok : FnOk P w K mg base CX0 k f fd ps sp
  g : mg x = some (.ref f)
  kp : PySem.W.keepIn K (.ref f) = true
  b : Binds K fd ps []
theorem ifF {b : Bool} {A B : Prop} (h : b = false) (x : B) : if b = true then A else B := by
  rw [h]
  exact iteF x
theorem ifT {b : Bool} {A B : Prop} (h : b = true) (x : A) : if b = true then A else B := by
  rw [h]
  exact iteT x
theorem nd2 {p q : Prop} [Decidable p] [Decidable q] (hp : p) (hq : q) : (!(decide p && decide q)) = false := by
  rw [decide_eq_true hp, decide_eq_true hq]
  rfl
theorem at0 {x : V} {r : List V} : atI (x :: r) 0 = some x := atI_nat (j := 0) rfl
theorem at1 {x y : V} {r : List V} : atI (x :: y :: r) 1 = some y := atI_nat (j := 1) rfl
theorem tT {K : PySem.W.Frag} {H : Hp} {a : Addr} {xs : List V} (h : H a = some (.tup xs)) : SqT K H a xs := .inl (.inl h)
theorem tL {K : PySem.W.Frag} {H : Hp} {a : Addr} {xs : List V} (h : H a = some (.lst xs)) : SqL K H a xs := .inl (.inl h)
/-- an office (people, counters) -/
structure Ofc (H : Hp) (a : Addr) (n c : Nat) : Prop where
  at_ : H a = some (.tup [.int (n : Int), .int (c : Int)])
  n1 : 1 ≤ n
  n7 : n ≤ 7
  c1 : 1 ≤ c
  c6 : c ≤ 6
theorem Ofc.ex {H H' : Hp} {a : Addr} {n c : Nat} (o : Ofc H a n c) (e : Ex H H') : Ofc H' a n c := ⟨e _ _ o.at_, o.n1, o.n7, o.c1, o.c6⟩
/-- a person of an office -/
def Per (n : Nat) (p : Int) : Prop := 0 ≤ p ∧ p < (n : Int)
/-- a row of calls -/
structure Rw (H : Hp) (a : Addr) (n : Nat) (cs : List Int) : Prop where
  at_ : TuO H a (cs.map V.int)
  len : cs.length ≤ 60
  per : ∀ p ∈ cs, Per n p
theorem Rw.ex {H H' : Hp} {a : Addr} {n : Nat} {cs : List Int} (o : Rw H a n cs) (e : Ex H H') : Rw H' a n cs := ⟨o.at_.ex e, o.len, o.per⟩
theorem map_at {cs : List Int} {i : Nat} {x : V} (h : (cs.map V.int)[i]? = some x) : ∃ (hi : i < cs.length), x = .int cs[i] := by
  rw [List.getElem?_map] at h
  by_cases hi : i < cs.length
  · rw [List.getElem?_eq_getElem hi] at h
    exact ⟨hi, (Option.some.inj h).symm⟩
  · rw [List.getElem?_eq_none (by omega)] at h
    cases h
section
variable {P : Program} {w : World} {K : PySem.W.Frag} {mg : Str → Option Value} {base : Heap}
/-! ### need_office -/
def spNeedOffice : Sp := fun vs H Q _ => ∃ (a : Addr) (n c : Nat), vs = [.ref a] ∧ Ofc H a n c ∧ Q .non H
theorem scNeedOffice : FnScope ["office"] ["office"] (defScope sNeedOffice) := ⟨rfl, rfl, rfl, by decide +kernel, rfl, by decide +kernel, by decide +kernel⟩
theorem ok_needOffice {f f1 f2 : Addr} {fd fd1 fd2 : FuncData} (D : Df K mg "need_office" sNeedOffice f fd) (C1 : Cal P w K mg base 1 "is_list" ["value", "least", "most"] spIsList f1 fd1) (C2 : Cal P w K mg base 2 "is_in" ["value", "least", "most"] spIsIn f2 fd2) (B : Bl mg) :
    FnOk P w K mg base CX0 3 f fd ["office"] spNeedOffice := by
  obtain ⟨t7, m7⟩ := B.mp7
  obtain ⟨t6, m6⟩ := B.mc6
  refine D.F.ok scNeedOffice (fun vs H Q E h => ?_) (fun cdv A outer s H vs Q E hr h => ?_)
  · obtain ⟨a, n, c, rfl, _⟩ := h
    rfl
  · obtain ⟨a, n, c, rfl, o, q⟩ := h
    have hr1 : Room 1 _ := hr.mono (by decide)
    refine ⟨_, pss_one (ps_if (PW.pt (pw_or (pt_not (pt_val (pe_call C1.ok hr1 (by rfl) C1.g C1.kp C1.b .nil pass0 (pa_cons (pv 0) (pa_cons pe_int (pa_cons pe_int pa_nil))))))
      (pw_or (pt_not (pt_val (pe_call C2.ok hr (by rfl) C2.g C2.kp C2.b .nil pass0 (pa_cons (pe_ix ix_tup (pv 0) pe_int (fun _ _ => rfl)) (pa_cons pe_int (pa_cons (pe_glob (by rfl) m7 (v := .int 7) ⟨_, rfl⟩) pa_nil))))))
      (pw_or1 (pt_not (pt_val (pe_call C2.ok hr (by rfl) C2.g C2.kp C2.b .nil pass0 (pa_cons (pe_ix ix_tup (pv 0) pe_int (fun _ _ => rfl)) (pa_cons pe_int (pa_cons (pe_glob (by rfl) m6 (v := .int 6) ⟨_, rfl⟩) pa_nil)))))))))) (pss_one ps_never) pss_nil), ?_⟩
    have h1 := o.n1
    have h2 := o.n7
    have h3 := o.c1
    have h4 := o.c6
    refine ⟨.ref a, rfl, a, _, 2, 2, rfl, .inl o.at_, _, rfl, ifF (nd2 (show (2 : Int) ≤ 2 by decide) (show (2 : Int) ≤ 2 by decide)) ?_⟩
    refine ⟨.ref a, rfl, a, _, 0, _, rfl, rfl, tT o.at_, at0, (n : Int), 1, 7, rfl, _, rfl, ifF (nd2 (by omega) (by omega)) ?_⟩
    refine ⟨.ref a, rfl, a, _, 1, _, rfl, rfl, tT o.at_, at1, (c : Int), 1, 6, rfl, _, rfl, ifF (nd2 (by omega) (by omega)) ?_⟩
    exact q
/-! ### need_person, need_pair -/
def spNeedPerson : Sp := fun vs H Q _ => ∃ (a : Addr) (n c : Nat) (p : Int), vs = [.ref a, .int p] ∧ Ofc H a n c ∧ Per n p ∧ Q .non H
theorem scNeedPerson : FnScope ["office", "person"] ["office", "person"] (defScope sNeedPerson) := ⟨rfl, rfl, rfl, by decide +kernel, rfl, by decide +kernel, by decide +kernel⟩
theorem ok_needPerson {f f2 : Addr} {fd fd2 : FuncData} (D : Df K mg "need_person" sNeedPerson f fd) (C2 : Cal P w K mg base 2 "is_in" ["value", "least", "most"] spIsIn f2 fd2) :
    FnOk P w K mg base CX0 3 f fd ["office", "person"] spNeedPerson := by
  refine D.F.ok scNeedPerson (fun vs H Q E h => ?_) (fun cdv A outer s H vs Q E hr h => ?_)
  · obtain ⟨a, n, c, p, rfl, _⟩ := h
    rfl
  · obtain ⟨a, n, c, p, rfl, o, hp, q⟩ := h
    refine ⟨_, pss_one (ps_if (pt_not (pt_val (pe_call C2.ok hr (by rfl) C2.g C2.kp C2.b .nil pass0 (pa_cons (pv 1) (pa_cons pe_int (pa_cons (pe_op op_sub (pe_ix ix_tup (pv 0) pe_int (fun _ _ => rfl)) pe_int) pa_nil)))))) (pss_one ps_never) pss_nil), ?_⟩
    obtain ⟨h1, h2⟩ := hp
    refine ⟨.int p, rfl, .ref a, rfl, a, _, 0, _, rfl, rfl, tT o.at_, at0, (n : Int), 1, rfl, rfl, p, 0, (n : Int) - 1, rfl, _, rfl, ifF (nd2 (by omega) (by omega)) ?_⟩
    exact q
def spNeedPair : Sp := fun vs H Q _ => ∃ (a : Addr) (n c : Nat) (p r : Int), vs = [.ref a, .int p, .int r] ∧ Ofc H a n c ∧ Per n p ∧ Per n r ∧ p ≠ r ∧ Q .non H
theorem scNeedPair : FnScope ["office", "one", "other"] ["office", "one", "other"] (defScope sNeedPair) := ⟨rfl, rfl, rfl, by decide +kernel, rfl, by decide +kernel, by decide +kernel⟩
theorem ok_needPair {f f2 : Addr} {fd fd2 : FuncData} (D : Df K mg "need_pair" sNeedPair f fd) (C2 : Cal P w K mg base 3 "need_person" ["office", "person"] spNeedPerson f2 fd2) :
    FnOk P w K mg base CX0 4 f fd ["office", "one", "other"] spNeedPair := by
  refine D.F.ok scNeedPair (fun vs H Q E h => ?_) (fun cdv A outer s H vs Q E hr h => ?_)
  · obtain ⟨a, n, c, p, r, rfl, _⟩ := h
    rfl
  · obtain ⟨a, n, c, p, r, rfl, o, hp, hq, hn, q⟩ := h
    refine ⟨_, pss_cons (ps_expr (pe_call C2.ok hr (by rfl) C2.g C2.kp C2.b .nil pass0 (pa_cons (pv 0) (pa_cons (pv 1) pa_nil))))
      (pss_cons (ps_expr (pe_call C2.ok hr (by rfl) C2.g C2.kp C2.b .nil pass0 (pa_cons (pv 0) (pa_cons (pv 2) pa_nil))))
      (pss_one (ps_if (pt_cmpR op_eq (pv 1) (pv 2) (nomark _)) (pss_one ps_never) pss_nil))), ?_⟩
    refine ⟨.ref a, rfl, .int p, rfl, a, n, c, p, rfl, o, hp, ?_⟩
    refine ⟨.ref a, rfl, .int r, rfl, a, n, c, r, rfl, o, hq, ?_⟩
    refine ⟨.int p, rfl, .int r, rfl, rfl, _, rfl, ifF (decide_eq_false fun e => hn (V.int.inj e)) ?_⟩
    exact q
/-! ### need_calls -/
def spNeedCalls : Sp := fun vs H Q _ => ∃ (a b : Addr) (n c : Nat) (cs : List Int), vs = [.ref a, .ref b] ∧ Ofc H a n c ∧ Rw H b n cs ∧ ∀ H', Ex H H' → Q .non H'
theorem scNeedCalls : FnScope ["office", "calls", "index", "person"] ["office", "calls"] (defScope sNeedCalls) := ⟨rfl, rfl, rfl, by decide +kernel, rfl, by decide +kernel, by decide +kernel⟩
theorem ok_needCalls {f f1 f2 : Addr} {fd fd1 fd2 : FuncData} (D : Df K mg "need_calls" sNeedCalls f fd) (C1 : Cal P w K mg base 1 "is_list" ["value", "least", "most"] spIsList f1 fd1) (C2 : Cal P w K mg base 2 "is_in" ["value", "least", "most"] spIsIn f2 fd2) (B : Bl mg) :
    FnOk P w K mg base CX0 3 f fd ["office", "calls"] spNeedCalls := by
  obtain ⟨t6, m6⟩ := B.mk60
  refine D.F.ok scNeedCalls (fun vs H Q E h => ?_) (fun cdv A outer s H vs Q E hr h => ?_)
  · obtain ⟨a, b, n, c, cs, rfl, _⟩ := h
    rfl
  · obtain ⟨a, b, n, c, cs, rfl, o, r, q⟩ := h
    have hr1 : Room 1 _ := hr.mono (by decide)
    refine ⟨_, pss_cons (ps_if (pt_not (pt_val (pe_call C1.ok hr1 (by rfl) C1.g C1.kp C1.b .nil pass0 (pa_cons (pv 1) (pa_cons pe_int (pa_cons (pe_glob (by rfl) m6 (v := .int 60) ⟨_, rfl⟩) pa_nil)))))) (pss_one ps_never) pss_nil)
      (pss_one (ps_for PassesOwn.never rfl (pi_enumT (by rfl) B.enu (pa_cons (pv 1) pa_nil)) (pg_tup rfl (pgs_cons (pg_name (i := 2) scNeedCalls.nd rfl (.inl rfl)) (pgs_cons (pg_name (i := 3) scNeedCalls.nd rfl (.inl rfl)) pgs_nil)))
        (pss_one (ps_if (pt_not (pt_val (pe_call C2.ok hr (by rfl) C2.g C2.kp C2.b .nil pass0 (pa_cons (pv 3) (pa_cons pe_int (pa_cons (pe_op op_sub (pe_ix ix_tup (pv 0) pe_int (fun _ _ => rfl)) pe_int) pa_nil)))))) (pss_one ps_never) pss_nil)))), ?_⟩
    have hl : ((cs.map V.int).length : Int) ≤ 60 := by
      have := r.len
      rw [List.length_map]
      omega
    refine ⟨.ref b, rfl, b, _, 0, 60, rfl, r.at_.rd, _, rfl, ifF (nd2 (by omega) hl) ?_⟩
    refine ⟨.ref b, rfl, b, _, rfl, r.at_.sq, for_it (walk_enumT (K := K) (a := b) (xs := cs.map V.int)) (fun i σ H' => ∃ x2 x3, σ = [some (.ref a), some (.ref b), x2, x3] ∧ Ex H H') ⟨_, _, rfl, Ex.refl H⟩ (fun i σ H' _ ⟨_, _, _, e⟩ => (r.at_.ex e).sq) ?_ ?_⟩
    · rintro i x σ H1 H2 hi ⟨x2, x3, rfl, e1⟩ ⟨T, y, z, rfl, nT, rfl, hy, hz⟩
      obtain rfl := Option.some.inj hy
      obtain ⟨hi', rfl⟩ := map_at hz
      have e2 : Ex H1 (upd H1 T (.tup [.int (i : Nat), .int cs[i]])) := Ex.new nT
      have o2 := (o.ex e1).ex e2
      obtain ⟨h1, h2⟩ := r.per _ (List.getElem_mem hi')
      refine ⟨T, _, rfl, tT upd_same, rfl, _, _, rfl, _, _, rfl, rfl, ?_⟩
      refine ⟨.int cs[i], rfl, .ref a, rfl, a, _, 0, _, rfl, rfl, tT o2.at_, at0, (n : Int), 1, rfl, rfl, cs[i], 0, (n : Int) - 1, rfl, _, rfl, ifF (nd2 (by omega) (by omega)) ?_⟩
      exact ⟨_, _, rfl, e1.trans e2⟩
    · rintro σ H' ⟨_, _, _, e⟩
      exact q H' e
end
end CkD


set_option linter.all false
set_option maxRecDepth 100000
set_option maxHeartbeats 4000000
/-! States on the heap: need_lines, need_state, counter_of. -/
namespace CkD
open PySem PySem.Spec PyProof.Rows L2 CkR CkM
open Evl (Ex)
/-! ### plain facts -/
theorem nd_take : ∀ {S : Lines} {i j : Nat} {line : List Int} {p : Int}, S.flatten.Nodup → S[i]? = some line → line[j]? = some p → p ∉ (S.take i).flatten ++ line.take j
  | [], i, j, line, p, _, h, _ => by simp at h
  | a :: r, 0, j, line, p, hn, h, hp => by
    have e : a = line := Option.some.inj h
    subst e
    rw [List.flatten_cons] at hn
    obtain ⟨h1, _, _⟩ := List.nodup_append.mp hn
    show p ∉ a.take j
    intro m
    obtain ⟨k, hk, ek⟩ := List.getElem_of_mem m
    rw [List.length_take] at hk
    rw [List.getElem_take] at ek
    obtain ⟨hj, ej⟩ := List.getElem?_eq_some_iff.mp hp
    have := (List.getElem_inj h1).mp (ek.trans ej.symm)
    omega
  | a :: r, i + 1, j, line, p, hn, h, hp => by
    have h : r[i]? = some line := h
    rw [List.flatten_cons] at hn
    obtain ⟨h1, h2, h3⟩ := List.nodup_append.mp hn
    have ih := nd_take h2 h hp
    show p ∉ (a ++ (r.take i).flatten) ++ line.take j
    rw [List.append_assoc]
    intro m
    rcases List.mem_append.mp m with m | m
    · have ml : line ∈ r := List.mem_of_getElem? h
      exact h3 p m p (List.mem_flatten.mpr ⟨line, ml, List.mem_of_getElem? hp⟩) rfl
    · exact ih m
theorem flat_take {S : Lines} {i : Nat} {line : List Int} (h : S[i]? = some line) : (S.take (i + 1)).flatten = (S.take i).flatten ++ line := by
  rw [List.take_add_one, h]
  simp
theorem val_map (f : Int → V) (p : Int) : ∀ l : List Int, valV (l.map fun y => ((Sum.inl y : Key), f y)) (Sum.inl p : Key) = if p ∈ l then some (f p) else none
  | [] => by simp [valV]
  | a :: r => by
    have ih := val_map f p r
    rw [List.map_cons]
    by_cases e : a = p
    · subst e
      rw [valV_pos rfl]
      simp
    · rw [valV_neg (fun z => e (Sum.inl.inj z)), ih]
      have : (p ∈ a :: r) ↔ p ∈ r := by
        rw [List.mem_cons]
        exact ⟨fun q => q.resolve_left fun z => e z.symm, .inr⟩
      simp only [this]
theorem val_no {f : Int → V} {p : Int} {l : List Int} (h : p ∉ l) : valV (l.map fun y => ((Sum.inl y : Key), f y)) (Sum.inl p : Key) = none := by
  rw [val_map, if_neg h]
theorem val_yes {f : Int → V} {p : Int} {l : List Int} (h : p ∈ l) : valV (l.map fun y => ((Sum.inl y : Key), f y)) (Sum.inl p : Key) = some (f p) := by
  rw [val_map, if_pos h]
theorem in_ints (p : Int) : ∀ l : List Int, inV (.int p) (l.map V.int) = l.contains p
  | [] => rfl
  | a :: r => by
    have ih := in_ints p r
    show (eqV (.int a) (.int p) || inV (.int p) (r.map V.int)) = _
    rw [ih, List.contains_cons]
    show ((a == p) || r.contains p) = ((p == a) || r.contains p)
    rw [show (a == p) = (p == a) from by
      by_cases e : a = p
      · subst e; rfl
      · rw [beq_eq_false_iff_ne.mpr e, beq_eq_false_iff_ne.mpr fun z => e z.symm]]
theorem flat_ints (l : List Int) : (l.map V.int).all flatV = true := by
  rw [List.all_map]
  exact List.all_eq_true.mpr fun _ _ => rfl
/-- the places of the lines in which p stands -/
def cnts (S : Lines) (p : Int) (i : Nat) : List Nat := (List.range i).filter fun j => (S.getD j []).contains p
theorem cnts_succ (S : Lines) (p : Int) (i : Nat) : cnts S p (i + 1) = if (S.getD i []).contains p = true then cnts S p i ++ [i] else cnts S p i := by
  unfold cnts
  rw [List.range_succ, List.filter_append]
  by_cases h : (S.getD i []).contains p = true
  · rw [if_pos h, List.filter_cons_of_pos (p := fun j => (S.getD j []).contains p) h]
    rfl
  · rw [if_neg h, List.filter_cons_of_neg (p := fun j => (S.getD j []).contains p) h]
    simp
theorem cnts_head {S : Lines} {p : Int} {k : Nat} (hk : (S.getD k []).contains p = true) (hn : ∀ j, j < k → (S.getD j []).contains p = false) :
    ∀ i : Nat, (i ≤ k → cnts S p i = []) ∧ (k < i → (cnts S p i)[0]? = some k)
  | 0 => ⟨fun _ => rfl, fun h => absurd h (by omega)⟩
  | i + 1 => by
    obtain ⟨h1, h2⟩ := cnts_head hk hn i
    rw [cnts_succ]
    refine ⟨fun h => ?_, fun h => ?_⟩
    · rw [if_neg (by rw [hn i (by omega)]; decide)]
      exact h1 (by omega)
    · by_cases e : i = k
      · subst e
        rw [if_pos hk, h1 (Nat.le_refl _)]
        rfl
      · have q := h2 (by omega)
        split
        · obtain ⟨hl, _⟩ := List.getElem?_eq_some_iff.mp q
          rw [List.getElem?_append_left hl]
          exact q
        · exact q
theorem cnts_first {S : Lines} {p : Int} (h : counterOf S p < S.length) : (cnts S p S.length)[0]? = some (counterOf S p) := by
  refine (cnts_head ?_ (fun j hj => ?_) S.length).2 h
  · rw [List.getD_eq_getElem?_getD, List.getElem?_eq_getElem h, Option.getD_some]
    exact List.contains_iff_mem.mpr (counter_in h)
  · have hj' : j < S.length := by omega
    rw [List.getD_eq_getElem?_getD, List.getElem?_eq_getElem hj', Option.getD_some]
    have := List.not_of_lt_findIdx (p := fun l : List Int => l.contains p) (xs := S) (i := j) hj
    simpa using this
/-! ### a state on the heap -/
def StA (H : Hp) (a : Addr) (S : Lines) : Prop := ∃ ls : List Addr, H a = some (.tup (ls.map V.ref)) ∧ ls.length = S.length ∧ ∀ (i : Nat) (l : Addr) (line : List Int), ls[i]? = some l → S[i]? = some line → TuO H l (line.map V.int)
theorem StA.ex {H H' : Hp} {a : Addr} {S : Lines} (o : StA H a S) (e : Ex H H') : StA H' a S := by
  obtain ⟨ls, h1, h2, h3⟩ := o
  exact ⟨ls, e _ _ h1, h2, fun i l line a b => (h3 i l line a b).ex e⟩
theorem ref_at {ls : List Addr} {i : Nat} {x : V} (h : (ls.map V.ref)[i]? = some x) : ∃ l, ls[i]? = some l ∧ x = .ref l := by
  rw [List.getElem?_map] at h
  cases e : ls[i]? with
  | none =>
    rw [e] at h
    cases h
  | some l =>
    rw [e] at h
    exact ⟨l, rfl, (Option.some.inj h).symm⟩
section
variable {P : Program} {w : World} {K : PySem.W.Frag} {mg : Str → Option Value} {base : Heap}
/-! ### need_lines -/
def spNeedLines : Sp := fun vs H Q _ => ∃ (a b : Addr) (n c : Nat) (S : Lines), vs = [.ref a, .ref b] ∧ Ofc H a n c ∧ StA H b S ∧ Val n c S ∧ ∀ H', Ex H H' → Q .non H'
theorem scNeedLines : FnScope ["office", "state", "people", "counters", "met", "index", "line", "person"] ["office", "state"] (defScope sNeedLines) := ⟨rfl, rfl, rfl, by decide +kernel, rfl, by decide +kernel, by decide +kernel⟩
def metOf (l : List Int) : List (Key × V) := l.map fun y => ((Sum.inl y : Key), V.bl true)
theorem ok_needLines {f f1 f2 : Addr} {fd fd1 fd2 : FuncData} (D : Df K mg "need_lines" sNeedLines f fd) (C1 : Cal P w K mg base 1 "is_list" ["value", "least", "most"] spIsList f1 fd1) (C2 : Cal P w K mg base 2 "is_in" ["value", "least", "most"] spIsIn f2 fd2) (B : Bl mg) :
    FnOk P w K mg base CX0 3 f fd ["office", "state"] spNeedLines := by
  refine D.F.ok scNeedLines (fun vs H Q E h => ?_) (fun cdv A outer s H vs Q E hr h => ?_)
  · obtain ⟨a, b, n, c, S, rfl, _⟩ := h
    rfl
  · obtain ⟨a, b, n, c, S, rfl, o, st, v, q⟩ := h
    have hr1 : Room 1 _ := hr.mono (by decide)
    have hu := hu_of hr
    refine ⟨_, pss_cons (ps_asg (pv 0) (pg_tup rfl (pgs_cons (pg_name (i := 2) scNeedLines.nd rfl (.inl rfl)) (pgs_cons (pg_name (i := 3) scNeedLines.nd rfl (.inl rfl)) pgs_nil))))
      (pss_cons (ps_if (pt_not (pt_val (pe_call C1.ok hr1 (by rfl) C1.g C1.kp C1.b .nil pass0 (pa_cons (pv 1) (pa_cons (pv 3) (pa_cons (pv 3) pa_nil)))))) (pss_one ps_never) pss_nil)
      (pss_cons (ps_set (i := 4) scNeedLines.nd rfl (.inl rfl) pe_dnewK)
      (pss_cons (ps_for PassesOwn.never rfl (pi_enumT (by rfl) B.enu (pa_cons (pv 1) pa_nil)) (pg_tup rfl (pgs_cons (pg_name (i := 5) scNeedLines.nd rfl (.inl rfl)) (pgs_cons (pg_name (i := 6) scNeedLines.nd rfl (.inl rfl)) pgs_nil)))
        (pss_cons (ps_if (pt_not (pt_val (pe_call C1.ok hr1 (by rfl) C1.g C1.kp C1.b .nil pass0 (pa_cons (pv 6) (pa_cons pe_int (pa_cons (pv 2) pa_nil)))))) (pss_one ps_never) pss_nil)
        (pss_one (ps_for PassesOwn.never rfl (pi_tup (pv 6)) (pg_name (i := 7) scNeedLines.nd rfl (.inl rfl))
          (pss_cons (ps_if (PW.pt (pw_or (pt_not (pt_val (pe_call C2.ok hr (by rfl) C2.g C2.kp C2.b .nil pass0 (pa_cons (pv 7) (pa_cons pe_int (pa_cons (pe_op op_sub (pv 2) pe_int) pa_nil)))))) (pw_or1 (pt_cmp (pc_din hu (pv 7) (pv 4)))))) (pss_one ps_never) pss_nil)
          (pss_one (ps_dput hu (pv 4) (pv 7) pe_bl rfl)))))))
      (pss_one (ps_if (pt_cmpR op_lt (pe_callB call_lenD (by rfl) B.len b_len (pa_cons (pv 4) pa_nil)) (pv 2) (nomark _)) (pss_one ps_never) pss_nil))))), ?_⟩
    obtain ⟨ls, hb, hll, hls⟩ := id st
    have hlen : (ls.map V.ref).length = c := by
      rw [List.length_map, hll]
      exact v.1
    have fl := v.len
    -- people, counters = office
    refine ⟨.ref a, rfl, a, _, rfl, tT o.at_, rfl, _, _, rfl, _, _, rfl, rfl, ?_⟩
    -- is_list(state, counters, counters)
    refine ⟨.ref b, rfl, .int c, rfl, .int c, rfl, b, _, c, c, rfl, .inl hb, _, rfl, ifF (nd2 (by omega) (by omega)) ?_⟩
    -- met = {}
    intro d hd
    have e0 : Ex H (upd H d (.dK [])) := Ex.new hd
    -- the lines
    refine ⟨.ref b, rfl, b, _, rfl, tT (e0 _ _ hb), for_it (walk_enumT (K := K) (a := b) (xs := ls.map V.ref)) (fun i σ H' => ∃ x5 x6 x7, σ = [some (.ref a), some (.ref b), some (.int n), some (.int c), some (.ref d), x5, x6, x7] ∧ Ex H H' ∧ H' d = some (.dK (metOf (S.take i).flatten)))
      ⟨_, _, _, rfl, e0, upd_same⟩ (fun i σ H' _ ⟨_, _, _, _, e, _⟩ => tT (e _ _ hb)) ?_ ?_⟩
    · rintro i x σ H1 H2 hi ⟨x5, x6, x7, rfl, e1, hm⟩ ⟨T, y, z, rfl, nT, rfl, hy, hz⟩
      obtain rfl := Option.some.inj hy
      obtain ⟨l, hl, rfl⟩ := ref_at hz
      have hi' : i < S.length := by
        rw [List.length_map, hll] at hi
        exact hi
      have hS : S[i]? = some S[i] := List.getElem?_eq_getElem hi'
      have ndT : d ≠ T := ne_of_none hm nT
      have e2 : Ex H (upd H1 T (.tup [.int (i : Nat), .ref l])) := e1.trans (Ex.new nT)
      have hline := (hls i l _ hl hS).ex e2
      have hm2 : (upd H1 T (.tup [.int (i : Nat), .ref l])) d = some (.dK (metOf (S.take i).flatten)) := by
        rw [upd_ne ndT]
        exact hm
      have hln : (S[i].map V.int).length ≤ n := by
        rw [List.length_map, ← fl]
        exact len_line (List.getElem_mem hi')
      refine ⟨T, _, rfl, tT upd_same, rfl, _, _, rfl, _, _, rfl, rfl, ?_⟩
      refine ⟨.ref l, rfl, .int n, rfl, l, _, 0, n, rfl, hline.rd, _, rfl, ifF (nd2 (by omega) (by omega)) ?_⟩
      generalize upd H1 T (.tup [.int (i : Nat), .ref l]) = H3 at e2 hline hm2 ⊢
      -- the people of a line
      refine ⟨.ref l, rfl, l, rfl, ⟨_, hline.sq⟩, for_tup (K := K) (a := l) (xs := S[i].map V.int) (fun j σ H' => ∃ y7, σ = [some (.ref a), some (.ref b), some (.int n), some (.int c), some (.ref d), some (.int (i : Nat)), some (.ref l), y7] ∧ Ex H H' ∧ TuO H' l (S[i].map V.int) ∧ H' d = some (.dK (metOf ((S.take i).flatten ++ S[i].take j))))
        ⟨_, rfl, e2, hline, by rw [List.take_zero, List.append_nil]; exact hm2⟩ (fun j σ H' _ ⟨_, _, _, h, _⟩ => h.sq) ?_ ?_⟩
      · rintro j x σ H4 hx ⟨y7, rfl, e3, hl4, hm4⟩
        obtain ⟨hj, rfl⟩ := map_at hx
        have hp : S[i][j] ∈ S.flatten := List.mem_flatten.mpr ⟨S[i], List.getElem_mem hi', List.getElem_mem hj⟩
        obtain ⟨h0, h1⟩ := v.mem.mp hp
        have hno := nd_take v.nd hS (List.getElem?_eq_getElem hj)
        have hlen4 : (metOf ((S.take i).flatten ++ S[i].take j)).length ≤ 1000 := by
          unfold metOf
          have z1 := len_take (S := S) (i := i)
          have z2 := len_line (List.getElem_mem hi')
          have z3 := o.n7
          rw [List.length_map, List.length_append, List.length_take]
          omega
        refine ⟨.int S[i][j], rfl, .int n, rfl, n, 1, rfl, rfl, S[i][j], 0, (n : Int) - 1, rfl, _, rfl, ifF (nd2 (by omega) (by omega)) ?_⟩
        refine ⟨.int S[i][j], rfl, .ref d, rfl, d, _, rfl, DGet.k (k := Sum.inl S[i][j]) hm4, _, rfl, ifF (by unfold metOf; rw [val_no hno]; rfl) ?_⟩
        refine ⟨.ref d, rfl, .int S[i][j], rfl, d, _, rfl, DPut.k (k := Sum.inl S[i][j]) hm4 (small1000 hlen4), ?_⟩
        have hl5 : TuO (upd H4 d (.dK (putK (metOf ((S.take i).flatten ++ S[i].take j)) (Sum.inl S[i][j]) (.bl true)))) l (S[i].map V.int) := by
          obtain ⟨ob, h1, h2⟩ := hl4
          exact ⟨ob, by rw [upd_ne (ne_of h1 hm4 (by intro z; cases z))]; exact h1, h2⟩
        refine ⟨_, rfl, Ex.mut e3 hd, hl5, ?_⟩
        rw [upd_same]
        unfold metOf
        rw [putK_new _ (val_no hno), List.take_add_one, List.getElem?_eq_getElem hj,
          show (S.take i).flatten ++ (S[i].take j ++ (some S[i][j]).toList) = ((S.take i).flatten ++ S[i].take j) ++ [S[i][j]] from (List.append_assoc ..).symm, List.map_append (l₂ := [S[i][j]])]
        rfl
      · rintro σ H4 ⟨y7, rfl, e3, hl4, hm4⟩
        refine ⟨_, _, _, rfl, e3, ?_⟩
        rw [flat_take hS]
        rw [List.length_map, List.take_length] at hm4
        exact hm4
    · rintro σ H5 ⟨x5, x6, x7, rfl, e5, hm5⟩
      refine ⟨.ref d, rfl, d, _, rfl, hm5, .int n, rfl, _, n, rfl, rfl, _, rfl, ifF (decide_eq_false ?_) ?_⟩
      · rw [List.length_map, hll, List.take_length]
        unfold metOf
        rw [List.length_map, fl]
        omega
      · exact q _ e5
/-! ### need_state -/
def spNeedState : Sp := spNeedLines
theorem scNeedState : FnScope ["office", "state"] ["office", "state"] (defScope sNeedState) := ⟨rfl, rfl, rfl, by decide +kernel, rfl, by decide +kernel, by decide +kernel⟩
theorem ok_needState {f f1 f2 : Addr} {fd fd1 fd2 : FuncData} (D : Df K mg "need_state" sNeedState f fd) (C1 : Cal P w K mg base 3 "need_office" ["office"] spNeedOffice f1 fd1) (C2 : Cal P w K mg base 3 "need_lines" ["office", "state"] spNeedLines f2 fd2) :
    FnOk P w K mg base CX0 4 f fd ["office", "state"] spNeedState := by
  refine D.F.ok scNeedState (fun vs H Q E h => ?_) (fun cdv A outer s H vs Q E hr h => ?_)
  · obtain ⟨a, b, n, c, S, rfl, _⟩ := h
    rfl
  · obtain ⟨a, b, n, c, S, rfl, o, st, v, q⟩ := h
    refine ⟨_, pss_cons (ps_expr (pe_call C1.ok hr (by rfl) C1.g C1.kp C1.b .nil pass0 (pa_cons (pv 0) pa_nil)))
      (pss_one (ps_expr (pe_call C2.ok hr (by rfl) C2.g C2.kp C2.b .nil pass0 (pa_cons (pv 0) (pa_cons (pv 1) pa_nil))))), ?_⟩
    refine ⟨.ref a, rfl, a, n, c, rfl, o, ?_⟩
    exact ⟨.ref a, rfl, .ref b, rfl, a, b, n, c, S, rfl, o, st, v, q⟩
/-! ### counter_of -/
def spCounterOf : Sp := fun vs H Q _ => ∃ (b : Addr) (p : Int) (S : Lines), vs = [.ref b, .int p] ∧ StA H b S ∧ counterOf S p < S.length ∧ S.length ≤ 1000 ∧ ∀ H', Ex H H' → Q (.int (counterOf S p : Nat)) H'
theorem scCounterOf : FnScope ["state", "person", "counter", "line"] ["state", "person"] (defScope sCounterOf) := ⟨rfl, rfl, rfl, by decide +kernel, rfl, by decide +kernel, by decide +kernel⟩
theorem ok_counterOf {f : Addr} {fd : FuncData} (D : Df K mg "counter_of" sCounterOf f fd) (B : Bl mg) : FnOk P w K mg base CX0 1 f fd ["state", "person"] spCounterOf := by
  refine D.F.ok scCounterOf (fun vs H Q E h => ?_) (fun cdv A outer s H vs Q E hr h => ?_)
  · obtain ⟨b, p, S, rfl, _⟩ := h
    rfl
  · obtain ⟨b, p, S, rfl, st, hc, hS, q⟩ := h
    refine ⟨_, pss_one (ps_ret (pe_ix ix_list (pe_lc (own := [("counter", 2), ("line", 3)]) rfl scCounterOf.nd (pi_enumT (by rfl) B.enu (pa_cons (pv 0) pa_nil))
      (blkOk_by (N := ["state", "person", "counter", "line"]) (sc := defScope sCounterOf) (by decide +kernel))
      (fun _ _ _ _ _ => pg_tupK (K := K) (n := 2) rfl rfl (pgs_cons (pg_name (i := 2) scCounterOf.nd rfl (.inl rfl)) (pgs_cons (pg_name (i := 3) scCounterOf.nd rfl (.inl rfl)) pgs_nil)))
      (fun _ _ _ _ _ => pts_one (pt_cmpR (op_inK (K := K) rfl) (pv 1) (pv 3) rfl)) (fun _ _ _ _ _ => pv 2)) pe_int (fun _ _ => rfl))), ?_⟩
    obtain ⟨ls, hb, hll, hls⟩ := id st
    refine ⟨.ref b, rfl, b, _, rfl, tT hb, fun L hL => ?_⟩
    have e0 : Ex H (upd H L (.lst [])) := Ex.new hL
    refine lc_it (walk_enumT (K := K) (a := b) (xs := ls.map V.ref)) (fun i H' => Ex H H' ∧ H' L = some (.lst ((cnts S p i).map fun j => V.int (j : Nat))))
      ⟨e0, upd_same⟩ (fun i H' _ ⟨e, _⟩ => tT (e _ _ hb)) ?_ ?_
    · rintro i x H1 H2 hi ⟨e1, hm⟩ ⟨T, y, z, rfl, nT, rfl, hy, hz⟩
      obtain rfl := Option.some.inj hy
      obtain ⟨l, hl, rfl⟩ := ref_at hz
      have hi' : i < S.length := by
        rw [List.length_map, hll] at hi
        exact hi
      have hSi : S[i]? = some S[i] := List.getElem?_eq_getElem hi'
      have nLT : L ≠ T := ne_of_none hm nT
      have e2 : Ex H (upd H1 T (.tup [.int (i : Nat), .ref l])) := e1.trans (Ex.new nT)
      have hline := (hls i l _ hl hSi).ex e2
      have hm2 : (upd H1 T (.tup [.int (i : Nat), .ref l])) L = some (.lst ((cnts S p i).map fun j => V.int (j : Nat))) := by
        rw [upd_ne nLT]
        exact hm
      have eg : S.getD i [] = S[i] := by rw [List.getD_eq_getElem?_getD, hSi, Option.getD_some]
      refine ⟨T, _, rfl, tT upd_same, rfl, _, _, rfl, _, _, rfl, rfl, rfl, ?_⟩
      refine ⟨.int p, rfl, .ref l, rfl, l, _, rfl, .inr hline.sq, rfl, flat_ints _, _, rfl, ?_⟩
      rw [in_ints, cnts_succ, eg]
      cases hcn : S[i].contains p with
      | true =>
        refine iteT ⟨.int (i : Nat), rfl, _, hm2, ?_, Ex.mut e2 hL, ?_⟩
        · rw [List.length_map]
          refine small1000 (Nat.le_trans (List.length_filter_le ..) ?_)
          rw [List.length_range]
          omega
        · rw [upd_same, if_pos rfl, List.map_append]
          rfl
      | false =>
        refine iteF ⟨e2, ?_⟩
        rw [if_neg Bool.false_ne_true]
        exact hm2
    · rintro H3 ⟨e3, hm3⟩
      refine ⟨L, _, 0, .int (counterOf S p : Nat), rfl, rfl, tL hm3, ?_, q _ e3⟩
      have z := cnts_first hc
      rw [List.length_map, hll]
      refine atI_nat (j := 0) ?_
      rw [List.getElem?_map, z]
      rfl
end
end CkD


set_option linter.all false
set_option maxRecDepth 100000
set_option maxHeartbeats 4000000
/-! call_in, story_in, after. -/
namespace CkD
open PySem PySem.Spec PyProof.Rows L2 CkR CkM
open Evl (Ex)
/-- the tuples at ls hold the lines of T -/
def LsA (H : Hp) (ls : List Addr) (T : Lines) : Prop := ls.length = T.length ∧ ∀ (i : Nat) (l : Addr) (line : List Int), ls[i]? = some l → T[i]? = some line → TuO H l (line.map V.int)
theorem LsA.ex {H H' : Hp} {ls : List Addr} {T : Lines} (o : LsA H ls T) (e : Ex H H') : LsA H' ls T := ⟨o.1, fun i l line a b => (o.2 i l line a b).ex e⟩
theorem LsA.nil {H : Hp} : LsA H [] [] := ⟨rfl, fun i l line a _ => by simp at a⟩
theorem LsA.snoc {H : Hp} {ls : List Addr} {T : Lines} {m : Addr} {x : List Int} (o : LsA H ls T) (h : TuO H m (x.map V.int)) : LsA H (ls ++ [m]) (T ++ [x]) := by
  refine ⟨by rw [List.length_append, List.length_append, o.1]; rfl, fun i l line a b => ?_⟩
  by_cases hi : i < ls.length
  · rw [List.getElem?_append_left hi] at a
    rw [List.getElem?_append_left (by rw [← o.1]; exact hi)] at b
    exact o.2 i l line a b
  · rw [List.getElem?_append_right (by omega)] at a
    rw [List.getElem?_append_right (by rw [← o.1]; omega)] at b
    by_cases e : i = ls.length
    · subst e
      rw [Nat.sub_self] at a
      rw [o.1, Nat.sub_self] at b
      have e1 : m = l := Option.some.inj a
      have e2 : x = line := Option.some.inj b
      subst e1
      subst e2
      exact h
    · have : (([m] : List Addr))[i - ls.length]? = none := by
        rw [List.getElem?_eq_none]
        show 1 ≤ i - ls.length
        omega
      rw [this] at a
      cases a
theorem LsA.set {H : Hp} {ls : List Addr} {T : Lines} {m : Addr} {x : List Int} (k : Nat) (o : LsA H ls T) (h : TuO H m (x.map V.int)) : LsA H (ls.set k m) (T.set k x) := by
  refine ⟨by rw [List.length_set, List.length_set, o.1], fun i l line a b => ?_⟩
  rw [List.getElem?_set] at a b
  by_cases e : k = i
  · rw [if_pos e] at a b
    split at a
    · split at b
      · cases a
        cases b
        exact h
      · cases b
    · cases a
  · rw [if_neg e] at a b
    exact o.2 i l line a b
theorem LsA.mut {H : Hp} {ls : List Addr} {T : Lines} {L : Addr} {xs : List V} {u : HO} (o : LsA H ls T) (h : H L = some (.lst xs)) : LsA (upd H L u) ls T :=
  ⟨o.1, fun i l line a b => (o.2 i l line a b).mut h⟩
theorem StA.of {H : Hp} {a : Addr} {ls : List Addr} {S : Lines} (h : H a = some (.tup (ls.map V.ref))) (o : LsA H ls S) : StA H a S := ⟨ls, h, o.1, o.2⟩
theorem out_take {S : Lines} {i : Nat} {line : List Int} (p : Int) (h : S[i]? = some line) : out (S.take (i + 1)) p = out (S.take i) p ++ [line.filter fun y => decide (y ≠ p)] := by
  unfold out
  rw [List.take_add_one, h, List.map_append]
  rfl
theorem filt_take {l : List Int} {j : Nat} (p : Int) (h : j < l.length) : (l.take (j + 1)).filter (fun y => decide (y ≠ p)) = (l.take j).filter (fun y => decide (y ≠ p)) ++ (if l[j] = p then [] else [l[j]]) := by
  rw [List.take_add_one, List.getElem?_eq_getElem h, List.filter_append]
  congr 1
  show [l[j]].filter _ = _
  by_cases e : l[j] = p
  · rw [if_pos e]
    simp [e]
  · rw [if_neg e]
    simp [e]
theorem chI {Q : VK} {H : Hp} {i j : Int} (e : i = j) (h : Q (.int j) H) : Q (.int i) H := e ▸ h
section
variable {P : Program} {w : World} {K : PySem.W.Frag} {mg : Str → Option Value} {base : Heap}
def spCallIn : Sp := fun vs H Q _ => ∃ (b : Addr) (p : Int) (n c : Nat) (S : Lines), vs = [.ref b, .int p] ∧ StA H b S ∧ Val n c S ∧ Per n p ∧ n ≤ 7 ∧ c ≤ 6 ∧ ∀ r H', Ex H H' → StA H' r (callIn S p) → Q (.ref r) H'
abbrev nCallIn : List Str := ["state", "person", "old", "new", "lines", "line", "one"]
theorem scCallIn : FnScope nCallIn ["state", "person"] (defScope sCallIn) := ⟨rfl, rfl, rfl, by decide +kernel, rfl, by decide +kernel, by decide +kernel⟩
theorem ok_callIn {f f1 : Addr} {fd fd1 : FuncData} (D : Df K mg "call_in" sCallIn f fd) (C1 : Cal P w K mg base 1 "counter_of" ["state", "person"] spCounterOf f1 fd1) (B : Bl mg) :
    FnOk P w K mg base CX0 2 f fd ["state", "person"] spCallIn := by
  refine D.F.ok scCallIn (fun vs H Q E h => ?_) (fun cdv A outer s H vs Q E hr h => ?_)
  · obtain ⟨b, p, n, c, S, rfl, _⟩ := h
    rfl
  · obtain ⟨b, p, n, c, S, rfl, st, v, hp, hn7, hc6, q⟩ := h
    refine ⟨_, pss_cons (ps_set (i := 2) scCallIn.nd rfl (.inl rfl) (pe_call C1.ok hr (by rfl) C1.g C1.kp C1.b .nil pass0 (pa_cons (pv 0) (pa_cons (pv 1) pa_nil))))
      (pss_cons (ps_set (i := 3) scCallIn.nd rfl (.inl rfl) (pe_op op_mod (pe_op op_add (pv 2) pe_int) (pe_callB call_len_seq (by rfl) B.len b_len (pa_cons (pv 0) pa_nil))))
      (pss_cons (ps_setLc (i := 4) (own := [("line", 5)]) rfl scCallIn.nd rfl rfl (sw_true rfl rfl rfl (by decide +kernel)) (pi_tup (pv 0)) (blkOk_by (N := nCallIn) (sc := defScope sCallIn) (by decide +kernel))
        (fun _ _ _ _ _ => pg_name (i := 5) scCallIn.nd rfl (.inl rfl)) (fun _ _ _ _ _ => pts_nil)
        (fun _ _ _ _ _ => pe_callTy (call_tupF (K := K) rfl) (by rfl) B.tup b_tup (pa_cons (pe_lc (own := [("one", 6)]) rfl scCallIn.nd (pi_tupK (K := K) rfl (pv 5)) (blkOk_by (N := nCallIn) (sc := relS _ (defScope sCallIn)) (by decide +kernel))
          (fun _ _ _ _ _ => pg_name (i := 6) scCallIn.nd rfl (.inl rfl)) (fun _ _ _ _ _ => pts_one (pt_cmpR op_ne (pv 6) (pv 1) (nomark _))) (fun _ _ _ _ _ => pv 6)) pa_nil)))
      (pss_cons (ps_asg (pe_tupF (StX.pa_star (pe_ix ix_list (pv 4) (pv 3) (fun _ _ => rfl)) (pa_cons (pv 1) pa_nil))) (pg_sub (pv 4) (pv 3) set_list))
      (pss_one (ps_ret (pe_callTy call_tuple_of (by rfl) B.tup b_tup (pa_cons (pv 4) pa_nil))))))), ?_⟩
    have hm : p ∈ S.flatten := v.mem.mpr hp
    have hcl := counter_lt hm
    have hlen : S.length = c := v.1
    -- old
    refine ⟨.ref b, rfl, .int p, rfl, b, p, S, rfl, st, hcl, by omega, fun H1 e1 => ?_⟩
    obtain ⟨ls, hb, hll, hls⟩ := st.ex e1
    have lsa : LsA H1 ls S := ⟨hll, hls⟩
    -- new
    refine ⟨.int (counterOf S p : Nat), rfl, _, 1, rfl, rfl, .ref b, rfl, b, _, rfl, .inr (tT hb), _, _, rfl, rfl, ?_, ?_⟩
    · rw [List.length_map, hll]
      omega
    have en : (((counterOf S p : Nat) : Int) + 1) % (((ls.map V.ref).length : Nat) : Int) = (((counterOf S p + 1) % S.length : Nat) : Int) := by
      rw [List.length_map, hll]
      exact (Int.natCast_emod (counterOf S p + 1) S.length).symm
    dsimp only
    rw [en]
    have hk : (counterOf S p + 1) % S.length < S.length := Nat.mod_lt _ (by omega)
    have q2 : ∀ r H', Ex H H' → StA H' r ((out S p).set ((counterOf S p + 1) % S.length) ((out S p).getD ((counterOf S p + 1) % S.length) [] ++ [p])) → Q (.ref r) H' := q
    generalize (counterOf S p + 1) % S.length = k at hk q2
    -- lines
    refine ⟨.ref b, rfl, b, rfl, ⟨_, tT hb⟩, fun L hL => ?_⟩
    refine lc_tup (K := K) (a := b) (xs := ls.map V.ref) (fun i H' => Ex H1 H' ∧ ∃ ms : List Addr, H' L = some (.lst (ms.map V.ref)) ∧ LsA H' ms (out (S.take i) p))
      ⟨Ex.new hL, [], upd_same, LsA.nil⟩ (fun i H' _ ⟨e, _⟩ => tT (e _ _ hb)) ?_ ?_
    · rintro i x H2 hx ⟨e2, ms, hLm, lm⟩
      obtain ⟨l, hl, rfl⟩ := ref_at hx
      have hi : i < S.length := by
        rw [← hll]
        exact (List.getElem?_eq_some_iff.mp hl).1
      have hSi : S[i]? = some S[i] := List.getElem?_eq_getElem hi
      have hline := (hls i l _ hl hSi).ex e2
      have hl7 : S[i].length ≤ 7 := by
        have z := len_line (List.getElem_mem hi)
        rw [v.len] at z
        omega
      refine ⟨rfl, ?_⟩
      refine ⟨.ref l, rfl, l, rfl, ⟨_, hline.sq⟩, fun M hM => ?_⟩
      have nLM : L ≠ M := ne_of_none hLm hM
      refine lc_tup (K := K) (a := l) (xs := S[i].map V.int) (fun j H' => Ex H2 H' ∧ H' M = some (.lst (((S[i].take j).filter fun y => decide (y ≠ p)).map V.int)))
        ⟨Ex.new hM, upd_same⟩ (fun j H' _ ⟨e, _⟩ => (hline.ex e).sq) ?_ ?_
      · rintro j x H3 hx ⟨e3, hm3⟩
        obtain ⟨hj, rfl⟩ := map_at hx
        refine ⟨rfl, ?_⟩
        refine ⟨.int S[i][j], rfl, .int p, rfl, rfl, _, rfl, ?_⟩
        rw [filt_take p hj]
        by_cases e : S[i][j] = p
        · rw [if_pos e]
          refine ifF (by rw [decide_eq_true (show V.int S[i][j] = V.int p by rw [e])]; rfl) ⟨e3, ?_⟩
          rw [List.append_nil]
          exact hm3
        · rw [if_neg e]
          refine ifT (by rw [decide_eq_false (fun z => e (V.int.inj z))]; rfl) ⟨.int S[i][j], rfl, _, hm3, ?_, Ex.mut e3 hM, ?_⟩
          · rw [List.length_map]
            refine small1000 (Nat.le_trans (List.length_filter_le ..) ?_)
            rw [List.length_take]
            omega
          · rw [upd_same, List.map_append]
            rfl
      · rintro H3 ⟨e3, hm3⟩
        rw [List.length_map, List.take_length] at hm3
        refine ⟨M, _, rfl, tL hm3, fun m ob hm hob => ?_⟩
        have e4 : Ex H3 (upd H3 m (.frz ob (.tup ((S[i].filter fun y => decide (y ≠ p)).map V.int)))) := Ex.new hm
        have hL4 := e4 _ _ (e3 _ _ hLm)
        refine ⟨_, hL4, ?_, ?_, ms ++ [m], ?_, ?_⟩
        · rw [List.length_map, lm.1]
          unfold out
          rw [List.length_map, List.length_take]
          exact small1000 (by omega)
        · exact Ex.mut ((e2.trans e3).trans e4) hL
        · rw [upd_same, List.map_append]
          rfl
        · rw [out_take p hSi]
          exact LsA.mut (LsA.snoc (lm.ex (e3.trans e4)) (TuO.new hob)) hL4
    · rintro H2 ⟨e2, ms, hLm, lm⟩
      rw [List.length_map, hll, List.take_length] at lm
      have hkm : k < ms.length := by
        rw [lm.1, out_len]
        exact hk
      have hko : k < (out S p).length := by
        rw [out_len]
        exact hk
      have hmk : ms[k]? = some ms[k] := List.getElem?_eq_getElem hkm
      have hline := lm.2 k _ _ hmk (List.getElem?_eq_getElem hko)
      have eg : (out S p).getD k [] = (out S p)[k] := by rw [List.getD_eq_getElem?_getD, List.getElem?_eq_getElem hko, Option.getD_some]
      rw [eg] at q2
      -- lines[new] = (*lines[new], person)
      refine ⟨.ref L, rfl, .int (k : Nat), rfl, L, _, _, .ref ms[k], rfl, rfl, tL hLm, atI_nat (j := k) (by rw [List.getElem?_map, hmk]; rfl), ms[k], _, rfl, .inl hline.sq, .int p, rfl, ?_, fun t ob ht hob => ?_⟩
      · rw [List.length_append, List.length_map]
        have z := len_line (List.getElem_mem hko)
        have z2 := (List.length_filter_le (fun y => decide (y ≠ p)) S.flatten)
        rw [out_flat] at z
        rw [v.len] at z2
        show _ + 1 ≤ sizeLine
        exact Nat.le_of_lt (small1000 (by omega))
      have e3 : Ex H2 (upd H2 t (.frz ob (.tup ((out S p)[k].map V.int ++ [.int p])))) := Ex.new ht
      have hL3 := e3 _ _ hLm
      refine ⟨.ref L, rfl, .int (k : Nat), rfl, L, _, k, k, rfl, rfl, hL3, ?_, ?_⟩
      · unfold ixN
        rw [if_pos (by omega), if_pos (by rw [List.length_map]; omega)]
        rfl
      have lm3 : LsA (upd H2 t (.frz ob (.tup ((out S p)[k].map V.int ++ [.int p])))) (ms.set k t) ((out S p).set k ((out S p)[k] ++ [p])) := LsA.set k (lm.ex e3) (by rw [List.map_append]; exact TuO.new hob)
      have lm4 := LsA.mut (u := .lst ((ms.map V.ref).set k (.ref t))) lm3 hL3
      -- return tuple(lines)
      refine ⟨.ref L, rfl, L, _, rfl, .inl ⟨tL upd_same, fun r hr' => ?_⟩⟩
      refine q2 r _ ?_ (StA.of ?_ (lm4.ex (Ex.new hr')))
      · exact (e1.trans (Ex.mut (e2.trans e3) hL)).trans (Ex.new hr')
      · rw [upd_same, List.map_set]
end
end CkD


set_option linter.all false
set_option maxRecDepth 100000
set_option maxHeartbeats 4000000
/-! story_in, after. -/
namespace CkD
open PySem PySem.Spec PyProof.Rows L2 CkR CkM
open Evl (Ex)
theorem rev_take {cs : List Int} {i : Nat} (h : i < cs.length) : (cs.take (i + 1)).reverse = cs[i] :: (cs.take i).reverse := by
  rw [List.take_add_one, List.getElem?_eq_getElem h, List.reverse_append]
  rfl
theorem rev_all (cs : List Int) : (cs.take cs.length).reverse = cs.reverse := by rw [List.take_length]
section
variable {P : Program} {w : World} {K : PySem.W.Frag} {mg : Str → Option Value} {base : Heap}
def spStoryIn : Sp := fun vs H Q _ => ∃ (b a : Addr) (n c : Nat) (S : Lines) (cs : List Int), vs = [.ref b, .ref a] ∧ StA H b S ∧ Val n c S ∧ Rw H a n cs ∧ n ≤ 7 ∧ c ≤ 6 ∧
  ∀ r H' xs l, Ex H H' → H' r = some (.lst (xs ++ [.ref l])) → StA H' l (CkM.after S cs.reverse) → Q (.ref r) H'
theorem scStoryIn : FnScope ["state", "calls", "found", "person"] ["state", "calls"] (defScope sStoryIn) := ⟨rfl, rfl, rfl, by decide +kernel, rfl, by decide +kernel, by decide +kernel⟩
theorem ok_storyIn {f f1 : Addr} {fd fd1 : FuncData} (D : Df K mg "story_in" sStoryIn f fd) (C1 : Cal P w K mg base 2 "call_in" ["state", "person"] spCallIn f1 fd1) :
    FnOk P w K mg base CX0 3 f fd ["state", "calls"] spStoryIn := by
  refine D.F.ok scStoryIn (fun vs H Q E h => ?_) (fun cdv A outer s H vs Q E hr h => ?_)
  · obtain ⟨b, a, n, c, S, cs, rfl, _⟩ := h
    rfl
  · obtain ⟨b, a, n, c, S, cs, rfl, st, v, rw_, hn7, hc6, q⟩ := h
    refine ⟨_, pss_cons (ps_set (i := 2) scStoryIn.nd rfl (.inl rfl) (pe_lst (pa_cons (pv 0) pa_nil)))
      (pss_cons (ps_for PassesOwn.never rfl (pi_tup (pv 1)) (pg_name (i := 3) scStoryIn.nd rfl (.inl rfl))
        (pss_one (ps_expr (pe_bm PySem.F.plainAttrs_list PySem.F.slot_list_append PySem.F.type_list_append mt_append (pv 2) (pa_cons (pe_call C1.ok hr (by rfl) C1.g C1.kp C1.b .nil pass0 (pa_cons (pe_ix ix_list (pv 2) (pe_un un_neg pe_int) (fun _ _ => rfl)) (pa_cons (pv 3) pa_nil))) pa_nil)))))
      (pss_one (ps_ret (pv 2)))), ?_⟩
    refine ⟨.ref b, rfl, (by show 1 ≤ sizeLine; decide), fun L hL => ?_⟩
    have e0 : Ex H (upd H L (.lst [.ref b])) := Ex.new hL
    refine ⟨.ref a, rfl, a, rfl, ⟨_, (rw_.at_.ex e0).sq⟩, for_tup (K := K) (a := a) (xs := cs.map V.int) (fun i σ H' => ∃ x3, σ = [some (.ref b), some (.ref a), some (.ref L), x3] ∧ Ex H H' ∧ ∃ xs l, H' L = some (.lst (xs ++ [.ref l])) ∧ xs.length = i ∧ StA H' l (CkM.after S (cs.take i).reverse))
      ⟨_, rfl, e0, [], b, upd_same, rfl, st.ex e0⟩ (fun i σ H' _ ⟨_, _, e, _⟩ => (rw_.at_.ex e).sq) ?_ ?_⟩
    · rintro i x σ H1 hx ⟨x3, rfl, e1, xs, l, hm, hxl, st1⟩
      obtain ⟨hi, rfl⟩ := map_at hx
      have hp := rw_.per _ (List.getElem_mem hi)
      have v1 : Val n c (CkM.after S (cs.take i).reverse) := v.after fun p hp => rw_.per p (List.mem_of_mem_take (List.mem_reverse.mp hp))
      refine ⟨.ref L, rfl, .inl ⟨rfl, _, tL hm⟩, .ref L, rfl, 1, rfl, L, _, -1, .ref l, rfl, rfl, tL hm, atI_last _ _, .int cs[i], rfl, l, cs[i], n, c, _, rfl, st1, v1, hp, hn7, hc6, fun r H2 e2 st2 => ?_⟩
      have hm2 := e2 _ _ hm
      refine ⟨L, _, .ref r, rfl, rfl, hm2, ?_, ?_⟩
      · rw [List.length_append, hxl]
        refine small1000 ?_
        have := rw_.len
        show i + 1 ≤ 1000
        omega
      · refine ⟨_, rfl, Ex.mut (e1.trans e2) hL, xs ++ [.ref l], r, upd_same, by rw [List.length_append, hxl]; rfl, ?_⟩
        rw [rev_take hi]
        obtain ⟨ls, h1, h2, h3⟩ := st2
        have lm : LsA H2 ls (callIn (CkM.after S (cs.take i).reverse) cs[i]) := ⟨h2, h3⟩
        exact StA.of (by rw [upd_ne (ne_of h1 hm2 (by intro z; cases z))]; exact h1) (lm.mut hm2)
    · rintro σ H1 ⟨x3, rfl, e1, xs, l, hm, hxl, st1⟩
      rw [List.length_map, rev_all] at st1
      exact ⟨.ref L, rfl, q L H1 xs l e1 hm st1⟩
def spAfter : Sp := fun vs H Q _ => ∃ (o b a : Addr) (n c : Nat) (S : Lines) (cs : List Int), vs = [.ref o, .ref b, .ref a] ∧ Ofc H o n c ∧ StA H b S ∧ Val n c S ∧ Rw H a n cs ∧
  ∀ r H', Ex H H' → StA H' r (CkM.after S cs.reverse) → Q (.ref r) H'
theorem scAfter : FnScope ["office", "state", "calls"] ["office", "state", "calls"] (defScope sAfter) := ⟨rfl, rfl, rfl, by decide +kernel, rfl, by decide +kernel, by decide +kernel⟩
theorem ok_after {f f1 f2 f3 : Addr} {fd fd1 fd2 fd3 : FuncData} (D : Df K mg "after" sAfter f fd) (C1 : Cal P w K mg base 4 "need_state" ["office", "state"] spNeedState f1 fd1) (C2 : Cal P w K mg base 3 "need_calls" ["office", "calls"] spNeedCalls f2 fd2)
    (C3 : Cal P w K mg base 3 "story_in" ["state", "calls"] spStoryIn f3 fd3) : FnOk P w K mg base CX0 5 f fd ["office", "state", "calls"] spAfter := by
  refine D.F.ok scAfter (fun vs H Q E h => ?_) (fun cdv A outer s H vs Q E hr h => ?_)
  · obtain ⟨o, b, a, n, c, S, cs, rfl, _⟩ := h
    rfl
  · obtain ⟨o, b, a, n, c, S, cs, rfl, ho, st, v, rw_, q⟩ := h
    have hr3 : Room 3 _ := hr.mono (by decide)
    refine ⟨_, pss_cons (ps_expr (pe_call C1.ok hr (by rfl) C1.g C1.kp C1.b .nil pass0 (pa_cons (pv 0) (pa_cons (pv 1) pa_nil))))
      (pss_cons (ps_expr (pe_call C2.ok hr3 (by rfl) C2.g C2.kp C2.b .nil pass0 (pa_cons (pv 0) (pa_cons (pv 2) pa_nil))))
      (pss_one (ps_ret (pe_ix ix_list (pe_call C3.ok hr3 (by rfl) C3.g C3.kp C3.b .nil pass0 (pa_cons (pv 1) (pa_cons (pv 2) pa_nil))) (pe_un un_neg pe_int) (fun _ _ => rfl))))), ?_⟩
    refine ⟨.ref o, rfl, .ref b, rfl, o, b, n, c, S, rfl, ho, st, v, fun H1 e1 => ?_⟩
    refine ⟨.ref o, rfl, .ref a, rfl, o, a, n, c, cs, rfl, ho.ex e1, rw_.ex e1, fun H2 e2 => ?_⟩
    have e12 := e1.trans e2
    refine ⟨.ref b, rfl, .ref a, rfl, b, a, n, c, S, cs, rfl, st.ex e12, v, rw_.ex e12, ho.n7, ho.c6, fun r H3 xs l e3 hm st3 => ?_⟩
    exact ⟨1, rfl, r, _, -1, .ref l, rfl, rfl, tL hm, atI_last _ _, q l H3 (e12.trans e3) st3⟩
end
end CkD


set_option linter.all false
set_option maxRecDepth 100000
set_option maxHeartbeats 4000000
/-! moved_gap, is_ahead. -/
namespace CkD
open PySem PySem.Spec PyProof.Rows L2 CkR CkM
open Evl (Ex)
section
variable {P : Program} {w : World} {K : PySem.W.Frag} {mg : Str → Option Value} {base : Heap}
/-! ### moved_gap -/
def spMovedGap : Sp := fun vs H Q _ => ∃ (o a : Addr) (n c : Nat) (cs : List Int) (p r : Int), vs = [.ref o, .ref a, .int p, .int r] ∧ Ofc H o n c ∧ Rw H a n cs ∧ Per n p ∧ Per n r ∧ p ≠ r ∧
  ∀ H', Ex H H' → Q (.int (((cs.count p : Nat) - (cs.count r : Nat) : Int) % (c : Int))) H'
theorem scMovedGap : FnScope ["office", "calls", "one", "other"] ["office", "calls", "one", "other"] (defScope sMovedGap) := ⟨rfl, rfl, rfl, by decide +kernel, rfl, by decide +kernel, by decide +kernel⟩
theorem ok_movedGap {f f1 f2 f3 : Addr} {fd fd1 fd2 fd3 : FuncData} (D : Df K mg "moved_gap" sMovedGap f fd) (C1 : Cal P w K mg base 3 "need_office" ["office"] spNeedOffice f1 fd1) (C2 : Cal P w K mg base 3 "need_calls" ["office", "calls"] spNeedCalls f2 fd2)
    (C3 : Cal P w K mg base 4 "need_pair" ["office", "one", "other"] spNeedPair f3 fd3) : FnOk P w K mg base CX0 5 f fd ["office", "calls", "one", "other"] spMovedGap := by
  refine D.F.ok scMovedGap (fun vs H Q E h => ?_) (fun cdv A outer s H vs Q E hr h => ?_)
  · obtain ⟨o, a, n, c, cs, p, r, rfl, _⟩ := h
    rfl
  · obtain ⟨o, a, n, c, cs, p, r, rfl, ho, rw_, hp, hq, hn, q⟩ := h
    have hr3 : Room 3 _ := hr.mono (by decide)
    refine ⟨_, pss_cons (ps_expr (pe_call C1.ok hr3 (by rfl) C1.g C1.kp C1.b .nil pass0 (pa_cons (pv 0) pa_nil)))
      (pss_cons (ps_expr (pe_call C2.ok hr3 (by rfl) C2.g C2.kp C2.b .nil pass0 (pa_cons (pv 0) (pa_cons (pv 1) pa_nil))))
      (pss_cons (ps_expr (pe_call C3.ok hr (by rfl) C3.g C3.kp C3.b .nil pass0 (pa_cons (pv 0) (pa_cons (pv 2) (pa_cons (pv 3) pa_nil)))))
      (pss_one (ps_ret (pe_op op_mod (pe_op op_sub (pe_bmT PySem.F.slot_tuple_count PySem.F.type_tuple_count mt_tcount (pv 1) (pa_cons (pv 2) pa_nil)) (pe_bmT PySem.F.slot_tuple_count PySem.F.type_tuple_count mt_tcount (pv 1) (pa_cons (pv 3) pa_nil)))
        (pe_ix ix_tup (pv 0) pe_int (fun _ _ => rfl))))))), ?_⟩
    refine ⟨.ref o, rfl, o, n, c, rfl, ho, ?_⟩
    refine ⟨.ref o, rfl, .ref a, rfl, o, a, n, c, cs, rfl, ho, rw_, fun H1 e1 => ?_⟩
    have ho1 := ho.ex e1
    have hc := (rw_.ex e1).at_
    refine ⟨.ref o, rfl, .int p, rfl, .int r, rfl, o, n, c, p, r, rfl, ho1, hp, hq, hn, ?_⟩
    refine ⟨.ref a, rfl, ⟨a, _, rfl, hc⟩, .int p, rfl, a, cs, p, rfl, rfl, hc.sq, ?_⟩
    refine ⟨.ref a, rfl, ⟨a, _, rfl, hc⟩, .int r, rfl, a, cs, r, rfl, rfl, hc.sq, ?_⟩
    refine ⟨_, _, rfl, rfl, .ref o, rfl, o, _, 1, _, rfl, rfl, tT ho1.at_, at1, _, (c : Int), rfl, rfl, ?_, q H1 e1⟩
    have := ho.c1
    show (0 : Int) < (c : Int)
    omega
/-! ### is_ahead -/
def spIsAhead : Sp := fun vs H Q _ => ∃ (o b : Addr) (n c : Nat) (S : Lines) (p r : Int), vs = [.ref o, .ref b, .int p, .int r] ∧ Ofc H o n c ∧ StA H b S ∧ Val n c S ∧ Per n p ∧ Per n r ∧ p ≠ r ∧
  ∀ H', Ex H H' → Q (.bl (ahead S p r)) H'
theorem scIsAhead : FnScope ["office", "state", "one", "other", "line"] ["office", "state", "one", "other"] (defScope sIsAhead) := ⟨rfl, rfl, rfl, by decide +kernel, rfl, by decide +kernel, by decide +kernel⟩
theorem ok_isAhead {f f1 f2 f3 : Addr} {fd fd1 fd2 fd3 : FuncData} (D : Df K mg "is_ahead" sIsAhead f fd) (C1 : Cal P w K mg base 4 "need_state" ["office", "state"] spNeedState f1 fd1)
    (C2 : Cal P w K mg base 4 "need_pair" ["office", "one", "other"] spNeedPair f2 fd2) (C3 : Cal P w K mg base 1 "counter_of" ["state", "person"] spCounterOf f3 fd3) : FnOk P w K mg base CX0 5 f fd ["office", "state", "one", "other"] spIsAhead := by
  refine D.F.ok scIsAhead (fun vs H Q E h => ?_) (fun cdv A outer s H vs Q E hr h => ?_)
  · obtain ⟨o, b, n, c, S, p, r, rfl, _⟩ := h
    rfl
  · obtain ⟨o, b, n, c, S, p, r, rfl, ho, st, v, hp, hq, hn, q⟩ := h
    have hr1 : Room 1 _ := hr.mono (by decide)
    refine ⟨_, pss_cons (ps_expr (pe_call C1.ok hr (by rfl) C1.g C1.kp C1.b .nil pass0 (pa_cons (pv 0) (pa_cons (pv 1) pa_nil))))
      (pss_cons (ps_expr (pe_call C2.ok hr (by rfl) C2.g C2.kp C2.b .nil pass0 (pa_cons (pv 0) (pa_cons (pv 2) (pa_cons (pv 3) pa_nil)))))
      (pss_cons (ps_set (i := 4) scIsAhead.nd rfl (.inl rfl) (pe_ix ix_tup (pv 1) (pe_call C3.ok hr1 (by rfl) C3.g C3.kp C3.b .nil pass0 (pa_cons (pv 1) (pa_cons (pv 2) pa_nil))) (fun _ _ => rfl)))
      (pss_one (ps_ret (pe_and (pe_cmpR op_in_seq (pv 3) (pv 4) rfl) (pe_one (pe_cmpR op_lt (pe_bmT PySem.F.slot_tuple_index PySem.F.type_tuple_index mt_tindex (pv 4) (pa_cons (pv 2) pa_nil))
        (pe_bmT PySem.F.slot_tuple_index PySem.F.type_tuple_index mt_tindex (pv 4) (pa_cons (pv 3) pa_nil)) (nomark _)))))))), ?_⟩
    have hm : p ∈ S.flatten := v.mem.mpr hp
    have hcl := counter_lt hm
    have hlen : S.length = c := v.1
    have hc6 := ho.c6
    refine ⟨.ref o, rfl, .ref b, rfl, o, b, n, c, S, rfl, ho, st, v, fun H1 e1 => ?_⟩
    refine ⟨.ref o, rfl, .int p, rfl, .int r, rfl, o, n, c, p, r, rfl, ho.ex e1, hp, hq, hn, ?_⟩
    refine ⟨.ref b, rfl, .ref b, rfl, .int p, rfl, b, p, S, rfl, st.ex e1, hcl, by omega, fun H2 e2 => ?_⟩
    have e12 := e1.trans e2
    obtain ⟨ls, hb, hll, hls⟩ := st.ex e12
    have hlc : counterOf S p < ls.length := by omega
    have hS : S[counterOf S p]? = some S[counterOf S p] := List.getElem?_eq_getElem hcl
    have hl : ls[counterOf S p]? = some ls[counterOf S p] := List.getElem?_eq_getElem hlc
    have hline := hls _ _ _ hl hS
    have mp := counter_in hcl
    have ea : ahead S p r = (S[counterOf S p].contains r && decide (S[counterOf S p].idxOf p < S[counterOf S p].idxOf r)) := by
      unfold ahead
      rw [List.getD_eq_getElem?_getD, hS, Option.getD_some]
    rw [ea] at q
    refine ⟨b, _, (counterOf S p : Nat), .ref ls[counterOf S p], rfl, rfl, tT hb, atI_nat (by rw [List.getElem?_map, hl]; rfl), ?_⟩
    refine ⟨.int r, rfl, .ref ls[counterOf S p], rfl, _, _, rfl, .inr hline.sq, rfl, flat_ints _, _, rfl, ?_⟩
    rw [in_ints]
    cases hcn : S[counterOf S p].contains r with
    | false =>
      refine ifF rfl ?_
      rw [hcn] at q
      exact q H2 e12
    | true =>
      have mr : r ∈ S[counterOf S p] := List.contains_iff_mem.mp hcn
      refine ifT rfl ?_
      rw [hcn] at q
      refine ⟨.ref ls[counterOf S p], rfl, ⟨_, _, rfl, hline⟩, .int p, rfl, _, _, p, rfl, rfl, hline.sq, mp, ?_⟩
      refine ⟨.ref ls[counterOf S p], rfl, ⟨_, _, rfl, hline⟩, .int r, rfl, _, _, r, rfl, rfl, hline.sq, mr, ?_⟩
      refine ⟨_, _, rfl, rfl, ?_⟩
      have ed : decide (((S[counterOf S p].idxOf p : Nat) : Int) < ((S[counterOf S p].idxOf r : Nat) : Int)) = decide (S[counterOf S p].idxOf p < S[counterOf S p].idxOf r) := by
        rw [Bool.eq_iff_iff, decide_eq_true_iff, decide_eq_true_iff]
        omega
      dsimp only
      rw [ed]
      exact q H2 e12
end
end CkD


set_option linter.all false
set_option maxRecDepth 100000
set_option maxHeartbeats 4000000
/-! ahead_by. -/
namespace CkD
open PySem PySem.Spec PyProof.Rows L2 CkR CkM
open Evl (Ex)
/-- the places of p among the first i calls -/
def plc (p : Int) (cs : List Int) (i : Nat) : List Int := ((List.range i).filter fun j => cs[j]? == some p).map fun j => ((j : Nat) : Int)
theorem plc_succ {p : Int} {cs : List Int} {i : Nat} (h : i < cs.length) : plc p cs (i + 1) = plc p cs i ++ (if cs[i] = p then [(i : Int)] else []) := by
  unfold plc
  rw [List.range_succ, List.filter_append, List.map_append]
  congr 1
  by_cases e : cs[i] = p
  · rw [if_pos e, List.filter_cons_of_pos (p := fun j => cs[j]? == some p) (by rw [List.getElem?_eq_getElem h, e]; exact beq_self_eq_true _)]
    rfl
  · rw [if_neg e, List.filter_cons_of_neg (p := fun j => cs[j]? == some p) (by rw [List.getElem?_eq_getElem h]; simpa using e)]
    rfl
theorem plc_last {p : Int} {cs : List Int} : ∀ {i : Nat}, i ≤ cs.length → (last p (cs.take i).reverse ∈ plc p cs i ++ [-1]) ∧ ∀ y ∈ plc p cs i ++ [-1], y ≤ last p (cs.take i).reverse
  | 0, _ => by
    refine ⟨by simp [last_nil], fun y hy => ?_⟩
    have e : y = -1 := by simpa [plc] using hy
    rw [e]
    exact last_ge p _
  | i + 1, h => by
    have hi : i < cs.length := h
    obtain ⟨h1, h2⟩ := plc_last (p := p) (cs := cs) (i := i) (by omega)
    have hl : ((cs.take i).reverse.length : Int) = (i : Int) := by rw [List.length_reverse, List.length_take]; omega
    rw [rev_take hi, plc_succ hi]
    by_cases e : cs[i] = p
    · rw [if_pos e, last_pos e, hl]
      refine ⟨by simp, fun y hy => ?_⟩
      have hl2 := last_lt p (cs.take i).reverse
      rw [hl] at hl2
      rcases List.mem_append.mp hy with m | m
      · rcases List.mem_append.mp m with m | m
        · have := h2 y (List.mem_append_left _ m)
          omega
        · rw [List.mem_singleton] at m
          omega
      · rw [List.mem_singleton] at m
        omega
    · rw [if_neg e, last_neg e, List.append_nil]
      exact ⟨h1, h2⟩
theorem plc_max {p : Int} {cs : List Int} {m : Int} (h : m ∈ plc p cs cs.length ++ [-1]) (hm : ∀ y ∈ plc p cs cs.length ++ [-1], y ≤ m) : m = last p cs.reverse := by
  obtain ⟨h1, h2⟩ := plc_last (p := p) (cs := cs) (Nat.le_refl _)
  rw [rev_all] at h1 h2
  have a := hm _ h1
  have b := h2 _ h
  omega
theorem plc_len {p : Int} {cs : List Int} (i : Nat) : (plc p cs i).length ≤ i := by
  unfold plc
  rw [List.length_map]
  refine Nat.le_trans (List.length_filter_le ..) ?_
  rw [List.length_range]
  exact Nat.le_refl _
/-- who stands ahead behind the calls -/
def dueV (p r : Int) (h : List Int) : V := if last p h = -1 ∧ last r h = -1 then .non else if last p h < last r h then .int p else .int r
theorem eq2 (a b : Int) : PyData.eqv (.list [.int a, .int b]) (.list [.int (-1), .int (-1)]) = decide (a = -1 ∧ b = -1) := by
  show ((a == -1) && ((b == -1) && true)) = _
  rw [Bool.and_true, Bool.eq_iff_iff, Bool.and_eq_true, decide_eq_true_iff, beq_iff_eq, beq_iff_eq]
section
variable {P : Program} {w : World} {K : PySem.W.Frag} {mg : Str → Option Value} {base : Heap}
def spAheadBy : Sp := fun vs H Q _ => ∃ (o a : Addr) (n c : Nat) (cs : List Int) (p r : Int), vs = [.ref o, .ref a, .int p, .int r] ∧ Ofc H o n c ∧ Rw H a n cs ∧ Per n p ∧ Per n r ∧ p ≠ r ∧
  ∀ H', Ex H H' → Q (dueV p r cs.reverse) H'
abbrev nAheadBy : List Str := ["office", "calls", "one", "other", "places", "who", "at", "person"]
theorem scAheadBy : FnScope nAheadBy ["office", "calls", "one", "other"] (defScope sAheadBy) := ⟨rfl, rfl, rfl, by decide +kernel, rfl, by decide +kernel, by decide +kernel⟩
theorem ok_aheadBy {f f1 f2 f3 : Addr} {fd fd1 fd2 fd3 : FuncData} (D : Df K mg "ahead_by" sAheadBy f fd) (C1 : Cal P w K mg base 3 "need_office" ["office"] spNeedOffice f1 fd1) (C2 : Cal P w K mg base 3 "need_calls" ["office", "calls"] spNeedCalls f2 fd2)
    (C3 : Cal P w K mg base 4 "need_pair" ["office", "one", "other"] spNeedPair f3 fd3) (B : Bl mg) : FnOk P w K mg base CX0 5 f fd ["office", "calls", "one", "other"] spAheadBy := by
  refine D.F.ok scAheadBy (fun vs H Q E h => ?_) (fun cdv A outer s H vs Q E hr h => ?_)
  · obtain ⟨o, a, n, c, cs, p, r, rfl, _⟩ := h
    rfl
  · obtain ⟨o, a, n, c, cs, p, r, rfl, ho, rw_, hp, hq, hn, q⟩ := h
    have hr3 : Room 3 _ := hr.mono (by decide)
    refine ⟨_, pss_cons (ps_expr (pe_call C1.ok hr3 (by rfl) C1.g C1.kp C1.b .nil pass0 (pa_cons (pv 0) pa_nil)))
      (pss_cons (ps_expr (pe_call C2.ok hr3 (by rfl) C2.g C2.kp C2.b .nil pass0 (pa_cons (pv 0) (pa_cons (pv 1) pa_nil))))
      (pss_cons (ps_expr (pe_call C3.ok hr (by rfl) C3.g C3.kp C3.b .nil pass0 (pa_cons (pv 0) (pa_cons (pv 2) (pa_cons (pv 3) pa_nil)))))
      (pss_cons (ps_setLc (i := 4) (own := [("who", 5)]) rfl scAheadBy.nd rfl rfl (sw_true rfl rfl rfl (by decide +kernel)) (pi_tup (pe_tup (pa_cons (pv 2) (pa_cons (pv 3) pa_nil)))) (blkOk_by (N := nAheadBy) (sc := defScope sAheadBy) (by decide +kernel))
        (fun _ _ _ _ _ => pg_name (i := 5) scAheadBy.nd rfl (.inr rfl)) (fun _ _ _ _ _ => pts_nil)
        (fun _ _ _ _ _ => pe_callB (cr_maxK (K := K) rfl rfl) (by rfl) B.max b_max (pa_cons (pe_op op_cat (pe_lc (own := [("at", 6), ("person", 7)]) rfl scAheadBy.nd (pi_enumTK (K := K) rfl (by rfl) B.enu (pa_cons (pv 1) pa_nil)) (blkOk_by (N := nAheadBy) (sc := relS _ (defScope sAheadBy)) (by decide +kernel))
          (fun _ _ _ _ _ => pg_tupK (K := K) (n := 2) rfl rfl (pgs_cons (pg_name (i := 6) scAheadBy.nd rfl (.inl rfl)) (pgs_cons (pg_name (i := 7) scAheadBy.nd rfl (.inl rfl)) pgs_nil)))
          (fun _ _ _ _ _ => pts_one (pt_cmpR op_eq (pv 7) (pv 5) (nomark _))) (fun _ _ _ _ _ => pv 6)) (pe_lst (pa_cons (pe_un un_neg pe_int) pa_nil))) pa_nil)))
      (pss_cons (ps_if (pt_cmpR (op_eqD hr.units) (pv 4) (pe_lst (pa_cons (pe_un un_neg pe_int) (pa_cons (pe_un un_neg pe_int) pa_nil))) (nomark _)) (pss_one (ps_ret pe_non)) pss_nil)
      (pss_one (ps_ret (pe_ifExp (pt_cmpR op_lt (pe_ix ix_list (pv 4) pe_int (fun _ _ => rfl)) (pe_ix ix_list (pv 4) pe_int (fun _ _ => rfl)) (nomark _)) (pv 2) (pv 3)))))))), ?_⟩
    refine ⟨.ref o, rfl, o, n, c, rfl, ho, ?_⟩
    refine ⟨.ref o, rfl, .ref a, rfl, o, a, n, c, cs, rfl, ho, rw_, fun H1 e1 => ?_⟩
    have rw1 := rw_.ex e1
    refine ⟨.ref o, rfl, .int p, rfl, .int r, rfl, o, n, c, p, r, rfl, ho.ex e1, hp, hq, hn, ?_⟩
    -- places
    refine ⟨.int p, rfl, .int r, rfl, (by show 2 ≤ sizeLine; decide), fun T hT => ?_⟩
    have e2 : Ex H1 (upd H1 T (.tup [.int p, .int r])) := Ex.new hT
    have hT2 : (upd H1 T (.tup [.int p, .int r])) T = some (.tup [.int p, .int r]) := upd_same
    generalize upd H1 T (.tup [.int p, .int r]) = H2 at e2 hT2
    refine ⟨T, rfl, ⟨_, tT hT2⟩, fun L hL => ?_⟩
    refine lc_tup (K := K) (a := T) (xs := [V.int p, V.int r]) (fun i H' => Ex H2 H' ∧ H' L = some (.lst ((([p, r].take i).map fun y => last y cs.reverse).map V.int)))
      ⟨Ex.new hL, upd_same⟩ (fun i H' _ ⟨e, _⟩ => tT (e _ _ hT2)) ?_ ?_
    · rintro i x H3 hx ⟨e3, hm3⟩
      obtain ⟨hi, rfl⟩ := map_at (cs := [p, r]) hx
      generalize hwho : ([p, r] : List Int)[i] = who
      have rw3 := rw1.ex (e2.trans e3)
      refine ⟨rfl, ?_⟩
      refine ⟨.ref a, rfl, a, _, rfl, rw3.at_.sq, fun M hM => ?_⟩
      refine lc_it (walk_enumT (K := K) (a := a) (xs := cs.map V.int)) (fun j H' => Ex H3 H' ∧ H' M = some (.lst ((plc who cs j).map V.int)))
        ⟨Ex.new hM, upd_same⟩ (fun j H' _ ⟨e, _⟩ => (rw3.at_.ex e).sq) ?_ ?_
      · rintro j x H4 H5 hj ⟨e4, hm4⟩ ⟨U, y, z, rfl, nU, rfl, hy, hz⟩
        obtain rfl := Option.some.inj hy
        obtain ⟨hj', rfl⟩ := map_at hz
        have nMU : M ≠ U := ne_of_none hm4 nU
        have hm5 : (upd H4 U (.tup [.int (j : Nat), .int cs[j]])) M = some (.lst ((plc who cs j).map V.int)) := by
          rw [upd_ne nMU]
          exact hm4
        have e5 : Ex H3 (upd H4 U (.tup [.int (j : Nat), .int cs[j]])) := e4.trans (Ex.new nU)
        have hUu : (upd H4 U (.tup [.int (j : Nat), .int cs[j]])) U = some (.tup [.int (j : Nat), .int cs[j]]) := upd_same
        refine ⟨U, _, rfl, tT hUu, rfl, _, _, rfl, _, _, rfl, rfl, rfl, ?_⟩
        refine ⟨.int cs[j], rfl, .int who, ?_, rfl, _, rfl, ?_⟩
        · rw [← hwho]
          rfl
        rw [plc_succ hj']
        by_cases e : cs[j] = who
        · rw [if_pos e]
          refine ifT (decide_eq_true (by rw [e])) ⟨.int (j : Nat), rfl, _, hm5, ?_, Ex.mut e5 hM, ?_⟩
          · rw [List.length_map]
            have := plc_len (p := who) (cs := cs) j
            have := rw_.len
            exact small1000 (by omega)
          · rw [upd_same, List.map_append]
            rfl
        · rw [if_neg e]
          refine ifF (decide_eq_false fun z => e (V.int.inj z)) ⟨e5, ?_⟩
          rw [List.append_nil]
          exact hm5
      · rintro H4 ⟨e4, hm4⟩
        rw [List.length_map] at hm4
        refine ⟨1, rfl, (by show 1 ≤ sizeLine; decide), fun N hN => ?_⟩
        have nMN : M ≠ N := ne_of_none hm4 hN
        refine ⟨M, N, _, _, rfl, rfl, by rw [upd_ne nMN]; exact hm4, upd_same, ?_, fun R hR => ?_⟩
        · rw [List.length_map]
          have := plc_len (p := who) (cs := cs) cs.length
          have := rw_.len
          show _ + 1 ≤ sizeLine
          exact Nat.le_of_lt (small1000 (by omega))
        have e5 : Ex H4 (upd H4 N (.lst [.int (-1)])) := Ex.new hN
        refine ⟨R, plc who cs cs.length ++ [-1], rfl, tL (by rw [upd_same, List.map_append]; rfl), by simp, fun m h1 h2 => ?_⟩
        have em := plc_max h1 h2
        subst em
        have e6 := ((e3.trans e4).trans e5).trans (Ex.new (o := .lst ((plc who cs cs.length).map V.int ++ [.int (-1)])) hR)
        have hL6 := ((e4.trans e5).trans (Ex.new (o := .lst ((plc who cs cs.length).map V.int ++ [.int (-1)])) hR)) _ _ hm3
        refine ⟨_, hL6, ?_, Ex.mut e6 hL, ?_⟩
        · rw [List.length_map, List.length_map, List.length_take]
          refine small1000 ?_
          show min i 2 ≤ 1000
          omega
        · rw [upd_same, List.take_add_one, List.getElem?_eq_getElem hi, hwho, List.map_append, List.map_append]
          rfl
    · rintro H3 ⟨e3, hm3⟩
      have hm3 : H3 L = some (.lst [.int (last p cs.reverse), .int (last r cs.reverse)]) := hm3
      -- places == [-1, -1]
      refine ⟨.ref L, rfl, 1, rfl, 1, rfl, (by show 2 ≤ sizeLine; decide), fun M hM => ?_⟩
      have e4 : Ex H3 (upd H3 M (.lst [.int (-1), .int (-1)])) := Ex.new hM
      have hL4 := e4 _ _ hm3
      have hM4 : (upd H3 M (.lst [.int (-1), .int (-1)])) M = some (.lst [.int (-1), .int (-1)]) := upd_same
      generalize upd H3 M (.lst [.int (-1), .int (-1)]) = H4 at e4 hL4 hM4
      have e := ((e1.trans e2).trans e3).trans e4
      have q := q H4 e
      refine ⟨.list [.int (last p cs.reverse), .int (last r cs.reverse)], .list [.int (-1), .int (-1)], .lst (tL hL4) (.cons (.int _) (.cons (.int _) .nil)), .lst (tL hM4) (.cons (.int _) (.cons (.int _) .nil)), rfl, rfl, _, rfl, ?_⟩
      rw [eq2]
      unfold dueV at q
      by_cases c1 : last p cs.reverse = -1 ∧ last r cs.reverse = -1
      · rw [if_pos c1] at q
        exact ifT (decide_eq_true c1) q
      · rw [if_neg c1] at q
        refine ifF (decide_eq_false c1) ?_
        refine ⟨.ref L, rfl, L, _, 0, _, rfl, rfl, tL hL4, at0, .ref L, rfl, L, _, 1, _, rfl, rfl, tL hL4, at1, _, _, rfl, rfl, _, rfl, ?_⟩
        by_cases c2 : last p cs.reverse < last r cs.reverse
        · rw [if_pos c2] at q
          exact ifT (decide_eq_true c2) ⟨.int p, rfl, q⟩
        · rw [if_neg c2] at q
          exact ifF (decide_eq_false c2) ⟨.int r, rfl, q⟩
end
end CkD


set_option linter.all false
set_option maxRecDepth 100000
set_option maxHeartbeats 4000000
/-! overtakings. -/
namespace CkD
open PySem PySem.Spec PyProof.Rows L2 CkR CkM
open Evl (Ex)
/-- a pair that overtakings tells -/
structure OT (n : Nat) (S E : Lines) (a b : Int) : Prop where
  pa : Per n a
  pb : Per n b
  be : bef S a b
  ah : ahead E b a = true
/-- the list at L holds at most m such pairs -/
def FoundOk (H : Hp) (L : Addr) (n : Nat) (S E : Lines) (m : Nat) : Prop := ∃ ts : List Addr, H L = some (.lst (ts.map V.ref)) ∧ ts.length ≤ m ∧ ∀ t ∈ ts, ∃ a b : Int, H t = some (.tup [.int a, .int b]) ∧ OT n S E a b
theorem FoundOk.ex {H H' : Hp} {L : Addr} {n m : Nat} {S E : Lines} (f : FoundOk H L n S E m) (e : Ex H H') : FoundOk H' L n S E m := by
  obtain ⟨ts, h1, h2, h3⟩ := f
  refine ⟨ts, e _ _ h1, h2, fun t ht => ?_⟩
  obtain ⟨a, b, x, y⟩ := h3 t ht
  exact ⟨a, b, e _ _ x, y⟩
theorem FoundOk.le {H : Hp} {L : Addr} {n m k : Nat} {S E : Lines} (f : FoundOk H L n S E m) (h : m ≤ k) : FoundOk H L n S E k := by
  obtain ⟨ts, h1, h2, h3⟩ := f
  exact ⟨ts, h1, Nat.le_trans h2 h, h3⟩
theorem cut_drop (l : List Int) (j : Nat) (h : j < l.length) : cutV (l.map V.int) (some ((j : Int) + 1)) none = (l.drop (j + 1)).map V.int := by
  unfold cutV
  have e : ((j : Int) + 1) = ((j + 1 : Nat) : Int) := by omega
  rw [e, HT.sIx_nat, HT.sIx_none, List.length_map, Nat.min_eq_left (by omega), List.map_drop]
  refine List.take_of_length_le ?_
  rw [List.length_drop, List.length_map]
  exact Nat.le_refl _
section
variable {P : Program} {w : World} {K : PySem.W.Frag} {mg : Str → Option Value} {base : Heap}
def spOvertakings : Sp := fun vs H Q _ => ∃ (o b a : Addr) (n c : Nat) (S : Lines) (cs : List Int), vs = [.ref o, .ref b, .ref a] ∧ Ofc H o n c ∧ StA H b S ∧ Val n c S ∧ Rw H a n cs ∧
  ∀ t H' ys, Ex H H' → H' t = some (.tup ys) → ys.length ≤ 900 → (∀ x ∈ ys, ∃ u a b, x = V.ref u ∧ H' u = some (.tup [.int a, .int b]) ∧ OT n S (CkM.after S cs.reverse) a b) → Q (.ref t) H'
abbrev nOver : List Str := ["office", "state", "calls", "end", "found", "first", "at", "one", "other", "line"]
theorem scOver : FnScope nOver ["office", "state", "calls"] (defScope sOvertakings) := ⟨rfl, rfl, rfl, by decide +kernel, rfl, by decide +kernel, by decide +kernel⟩
theorem ok_over {f f1 f2 f3 f4 : Addr} {fd fd1 fd2 fd3 fd4 : FuncData} (D : Df K mg "overtakings" sOvertakings f fd) (C1 : Cal P w K mg base 4 "need_state" ["office", "state"] spNeedState f1 fd1) (C2 : Cal P w K mg base 3 "need_calls" ["office", "calls"] spNeedCalls f2 fd2)
    (C3 : Cal P w K mg base 3 "story_in" ["state", "calls"] spStoryIn f3 fd3) (C4 : Cal P w K mg base 1 "counter_of" ["state", "person"] spCounterOf f4 fd4) (B : Bl mg) : FnOk P w K mg base CX0 5 f fd ["office", "state", "calls"] spOvertakings := by
  refine D.F.ok scOver (fun vs H Q E h => ?_) (fun cdv A outer s H vs Q E hr h => ?_)
  · obtain ⟨o, b, a, n, c, S, cs, rfl, _⟩ := h
    rfl
  · obtain ⟨o, b, a, n, c, S, cs, rfl, ho, st, v, rw_, q⟩ := h
    have hr3 : Room 3 _ := hr.mono (by decide)
    have hr1 : Room 1 _ := hr.mono (by decide)
    refine ⟨_, pss_cons (ps_expr (pe_call C1.ok hr (by rfl) C1.g C1.kp C1.b .nil pass0 (pa_cons (pv 0) (pa_cons (pv 1) pa_nil))))
      (pss_cons (ps_expr (pe_call C2.ok hr3 (by rfl) C2.g C2.kp C2.b .nil pass0 (pa_cons (pv 0) (pa_cons (pv 2) pa_nil))))
      (pss_cons (ps_par (i := 3) (j := 4) rfl scOver.nd rfl rfl (by decide) rfl rfl (pa_cons (pe_ix ix_list (pe_call C3.ok hr3 (by rfl) C3.g C3.kp C3.b .nil pass0 (pa_cons (pv 1) (pa_cons (pv 2) pa_nil))) (pe_un un_neg pe_int) (fun _ _ => rfl)) (pa_cons (pe_lst pa_nil) pa_nil)) (by rfl))
      (pss_cons (ps_for PassesOwn.never rfl (pi_tup (pv 1)) (pg_name (i := 5) scOver.nd rfl (.inl rfl))
        (pss_one (ps_for PassesOwn.never rfl (pi_enumT (by rfl) B.enu (pa_cons (pv 5) pa_nil)) (pg_tup rfl (pgs_cons (pg_name (i := 6) scOver.nd rfl (.inl rfl)) (pgs_cons (pg_name (i := 7) scOver.nd rfl (.inl rfl)) pgs_nil)))
          (pss_one (ps_for PassesOwn.never rfl (pi_tup (pe_slice sl_tup (pv 5) (po_some (pe_op op_add (pv 6) pe_int)) po_none)) (pg_name (i := 8) scOver.nd rfl (.inl rfl))
            (pss_cons (ps_set (i := 9) scOver.nd rfl (.inl rfl) (pe_ix ix_tup (pv 3) (pe_call C4.ok hr1 (by rfl) C4.g C4.kp C4.b .nil pass0 (pa_cons (pv 3) (pa_cons (pv 7) pa_nil))) (fun _ _ => rfl)))
            (pss_one (ps_if (PW.pt (pw_and (pt_cmpR op_in_seq (pv 8) (pv 9) rfl) (pw_and1 (pt_cmpR op_lt (pe_bmT PySem.F.slot_tuple_index PySem.F.type_tuple_index mt_tindex (pv 9) (pa_cons (pv 8) pa_nil))
                (pe_bmT PySem.F.slot_tuple_index PySem.F.type_tuple_index mt_tindex (pv 9) (pa_cons (pv 7) pa_nil)) (nomark _)))))
              (pss_one (ps_expr (pe_bm PySem.F.plainAttrs_list PySem.F.slot_list_append PySem.F.type_list_append mt_append (pv 4) (pa_cons (pe_tup (pa_cons (pv 7) (pa_cons (pv 8) pa_nil))) pa_nil)))) pss_nil))))))))
      (pss_one (ps_ret (pe_callTy call_tuple_of (by rfl) B.tup b_tup (pa_cons (pe_callB cr_sortedP (by rfl) B.srt b_srt (pa_cons (pv 4) pa_nil)) pa_nil))))))), ?_⟩
    have hc6 := ho.c6
    have hn7 := ho.n7
    have hlen : S.length = c := v.1
    have fl := v.len
    refine ⟨.ref o, rfl, .ref b, rfl, o, b, n, c, S, rfl, ho, st, v, fun H1 e1 => ?_⟩
    refine ⟨.ref o, rfl, .ref a, rfl, o, a, n, c, cs, rfl, ho.ex e1, rw_.ex e1, fun H2 e2 => ?_⟩
    have e12 := e1.trans e2
    refine ⟨.ref b, rfl, .ref a, rfl, b, a, n, c, S, cs, rfl, st.ex e12, v, rw_.ex e12, hn7, hc6, fun r H3 xs e e3 hm stE => ?_⟩
    refine ⟨1, rfl, r, _, -1, .ref e, rfl, rfl, tL hm, atI_last _ _, Nat.zero_le _, fun L hL => ⟨_, _, rfl, ?_⟩⟩
    have e123 := e12.trans e3
    have vE : Val n c (CkM.after S cs.reverse) := v.after fun p hp => rw_.per p (List.mem_reverse.mp hp)
    generalize hE : CkM.after S cs.reverse = T at q stE vE
    obtain ⟨ls, hb, hll, hls⟩ := st.ex e123
    obtain ⟨es, heT, hel, hes⟩ := id stE
    have hlenT : T.length = c := vE.1
    have e0 : Ex H3 (upd H3 L (.lst [])) := Ex.new hL
    have f0 : FoundOk (upd H3 L (.lst [])) L n S T (49 * 0) := ⟨[], upd_same, Nat.le_refl _, fun t ht => by simp at ht⟩
    -- for first in state
    refine ⟨.ref b, rfl, b, rfl, ⟨_, tT (e0 _ _ hb)⟩, for_tup (K := K) (a := b) (xs := ls.map V.ref) (fun i σ H' => ∃ x5 x6 x7 x8 x9, σ = [some (.ref o), some (.ref b), some (.ref a), some (.ref e), some (.ref L), x5, x6, x7, x8, x9] ∧ Ex H3 H' ∧ FoundOk H' L n S T (49 * i))
      ⟨_, _, _, _, _, rfl, e0, f0⟩ (fun i σ H' _ ⟨_, _, _, _, _, _, e, _⟩ => tT (e _ _ hb)) ?_ ?_⟩
    · rintro i x σ H4 hx ⟨x5, x6, x7, x8, x9, rfl, e4, f4⟩
      obtain ⟨l, hl, rfl⟩ := ref_at hx
      have hi : i < S.length := by
        rw [← hll]
        exact (List.getElem?_eq_some_iff.mp hl).1
      have hSi : S[i]? = some S[i] := List.getElem?_eq_getElem hi
      have hline0 := hls i l _ hl hSi
      have hmem : S[i] ∈ S := List.getElem_mem hi
      have hl7 : S[i].length ≤ 7 := by
        have z := len_line hmem
        omega
      generalize hSl : S[i] = line at hline0 hmem hl7
      -- for at, one in enumerate(first)
      refine ⟨.ref l, rfl, l, _, rfl, (hline0.ex e4).sq, for_it (walk_enumT (K := K) (a := l) (xs := line.map V.int)) (fun j σ H' => ∃ x6 x7 x8 x9, σ = [some (.ref o), some (.ref b), some (.ref a), some (.ref e), some (.ref L), some (.ref l), x6, x7, x8, x9] ∧ Ex H3 H' ∧ FoundOk H' L n S T (49 * i + 7 * j))
        ⟨_, _, _, _, rfl, e4, f4⟩ (fun j σ H' _ ⟨_, _, _, _, _, e, _⟩ => (hline0.ex e).sq) ?_ ?_⟩
      · rintro j x σ H5 H6 hj ⟨x6, x7, x8, x9, rfl, e5, f5⟩ ⟨U, y, z, rfl, nU, rfl, hy, hz⟩
        obtain rfl := Option.some.inj hy
        obtain ⟨hj', rfl⟩ := map_at hz
        have e6' : Ex H5 (upd H5 U (.tup [.int (j : Nat), .int line[j]])) := Ex.new nU
        have hU : (upd H5 U (.tup [.int (j : Nat), .int line[j]])) U = some (.tup [.int (j : Nat), .int line[j]]) := upd_same
        have e6 := e5.trans e6'
        have f6 := f5.ex e6'
        generalize upd H5 U (.tup [.int (j : Nat), .int line[j]]) = H6 at e6 f6 hU
        refine ⟨U, _, rfl, tT hU, rfl, _, _, rfl, _, _, rfl, rfl, ?_⟩
        -- for other in first[at + 1:]
        refine ⟨.ref l, rfl, .int (j : Nat), rfl, _, 1, rfl, rfl, (j : Int) + 1, rfl, l, _, rfl, (hline0.ex e6).sq, ?_, fun Z hZ => ?_⟩
        · rintro ⟨h1, _⟩
          have e : ((j : Int) + 1) = ((j + 1 : Nat) : Int) := by omega
          rw [e, HT.sIx_nat, List.length_map] at h1
          omega
        rw [cut_drop line j hj']
        have e7' : Ex H6 (upd H6 Z (.tup ((line.drop (j + 1)).map V.int))) := Ex.new hZ
        have hZ7 : (upd H6 Z (.tup ((line.drop (j + 1)).map V.int))) Z = some (.tup ((line.drop (j + 1)).map V.int)) := upd_same
        have e7 := e6.trans e7'
        have f7 := f6.ex e7'
        generalize upd H6 Z (.tup ((line.drop (j + 1)).map V.int)) = H7 at e7 f7 hZ7
        refine ⟨Z, rfl, ⟨_, tT hZ7⟩, for_tup (K := K) (a := Z) (xs := (line.drop (j + 1)).map V.int) (fun k σ H' => ∃ x8 x9, σ = [some (.ref o), some (.ref b), some (.ref a), some (.ref e), some (.ref L), some (.ref l), some (.int (j : Nat)), some (.int line[j]), x8, x9] ∧ Ex H3 H' ∧ H' Z = some (.tup ((line.drop (j + 1)).map V.int)) ∧ FoundOk H' L n S T (49 * i + 7 * j + k))
          ⟨_, _, rfl, e7, hZ7, f7⟩ (fun k σ H' _ ⟨_, _, _, _, h, _⟩ => tT h) ?_ ?_⟩
        · rintro k x σ H8 hx ⟨x8, x9, rfl, e8, hZ8, f8⟩
          obtain ⟨hk, rfl⟩ := map_at hx
          have hk' : j + 1 + k < line.length := by
            rw [List.length_drop] at hk
            omega
          have eot : (line.drop (j + 1))[k] = line[j + 1 + k] := List.getElem_drop
          rw [eot]
          have m1 : line[j] ∈ S.flatten := List.mem_flatten.mpr ⟨line, hmem, List.getElem_mem hj'⟩
          have m2 : line[j + 1 + k] ∈ S.flatten := List.mem_flatten.mpr ⟨line, hmem, List.getElem_mem hk'⟩
          have p1 := v.mem.mp m1
          have p2 := v.mem.mp m2
          have hbe : bef S line[j] line[j + 1 + k] := ⟨line, hmem, (List.pairwise_iff_getElem.mp (pair_sub (l := line))) j (j + 1 + k) hj' hk' (by omega)⟩
          generalize line[j] = p at p1 hbe
          generalize line[j + 1 + k] = r at p2 hbe
          have hcl := counter_lt (vE.mem.mpr p1)
          -- line = end[counter_of(end, one)]
          refine ⟨.ref e, rfl, .ref e, rfl, .int p, rfl, e, p, T, rfl, stE.ex e8, hcl, by omega, fun H9 e9 => ?_⟩
          have e89 := e8.trans e9
          obtain ⟨es', heT', hel', hes'⟩ := stE.ex e89
          have hlc : counterOf T p < es'.length := by omega
          have hTp : T[counterOf T p]? = some T[counterOf T p] := List.getElem?_eq_getElem hcl
          have hlp : es'[counterOf T p]? = some es'[counterOf T p] := List.getElem?_eq_getElem hlc
          have hl9 := hes' _ _ _ hlp hTp
          have mp := counter_in hcl
          have f9 := f8.ex e9
          have hZ9 := e9 _ _ hZ8
          have eg : T.getD (counterOf T p) [] = T[counterOf T p] := by rw [List.getD_eq_getElem?_getD, hTp, Option.getD_some]
          have hba : r ∈ T[counterOf T p] → T[counterOf T p].idxOf r < T[counterOf T p].idxOf p → ahead T r p = true := fun h1 h2 => behind_ahead vE p1 (by rw [eg]; exact h1) (by rw [eg]; exact h2)
          refine ⟨e, _, (counterOf T p : Nat), .ref es'[counterOf T p], rfl, rfl, tT heT', atI_nat (by rw [List.getElem?_map, hlp]; rfl), ?_⟩
          generalize T[counterOf T p] = tl at hl9 mp hba
          generalize es'[counterOf T p] = tla at hl9
          refine ⟨.int r, rfl, .ref tla, rfl, _, _, rfl, .inr hl9.sq, rfl, flat_ints _, _, rfl, ?_⟩
          rw [in_ints]
          cases hcn : tl.contains r with
          | false => exact ifF rfl (iteF ⟨_, _, rfl, e89, hZ9, f9.le (by omega)⟩)
          | true =>
            have mr : r ∈ tl := List.contains_iff_mem.mp hcn
            refine ifT rfl ?_
            refine ⟨.ref tla, rfl, ⟨_, _, rfl, hl9⟩, .int r, rfl, _, _, r, rfl, rfl, hl9.sq, mr, ?_⟩
            refine ⟨.ref tla, rfl, ⟨_, _, rfl, hl9⟩, .int p, rfl, _, _, p, rfl, rfl, hl9.sq, mp, ?_⟩
            refine ⟨_, _, rfl, rfl, _, rfl, ?_⟩
            by_cases hlt : ((tl.idxOf r : Nat) : Int) < ((tl.idxOf p : Nat) : Int)
            · refine ifT (decide_eq_true hlt) ?_
              obtain ⟨ts, g1, g2, g3⟩ := f9
              -- found.append((one, other))
              refine ⟨.ref L, rfl, .inl ⟨rfl, _, tL g1⟩, .int p, rfl, .int r, rfl, (by show 2 ≤ sizeLine; decide), fun W hW => ?_⟩
              have eW : Ex H9 (upd H9 W (.tup [.int p, .int r])) := Ex.new hW
              have hWW : (upd H9 W (.tup [.int p, .int r])) W = some (.tup [.int p, .int r]) := upd_same
              have g1' := eW _ _ g1
              have g3' : ∀ t ∈ ts, ∃ a b : Int, (upd H9 W (.tup [.int p, .int r])) t = some (.tup [.int a, .int b]) ∧ OT n S T a b := fun t ht => by
                obtain ⟨x, y, z1, z2⟩ := g3 t ht
                exact ⟨x, y, eW _ _ z1, z2⟩
              have hZW := eW _ _ hZ9
              have eWW := e89.trans eW
              generalize upd H9 W (.tup [.int p, .int r]) = H10 at eWW hWW g1' g3' hZW
              refine ⟨L, _, .ref W, rfl, rfl, g1', ?_, ?_⟩
              · rw [List.length_map]
                have : k ≤ 7 := by omega
                have : j ≤ 7 := by omega
                have : i ≤ 6 := by omega
                exact small1000 (by omega)
              · have tup_ne : ∀ (t : Addr) (xs : List V), H10 t = some (.tup xs) → t ≠ L := fun t xs h => ne_of h g1' (by intro z; cases z)
                refine ⟨_, _, rfl, Ex.mut eWW hL, by rw [upd_ne (tup_ne _ _ hZW)]; exact hZW, ts ++ [W], ?_, ?_, fun t ht => ?_⟩
                · rw [upd_same, List.map_append]
                  rfl
                · rw [List.length_append, List.length_singleton]
                  omega
                · rcases List.mem_append.mp ht with m | m
                  · obtain ⟨x, y, z1, z2⟩ := g3' t m
                    exact ⟨x, y, by rw [upd_ne (tup_ne _ _ z1)]; exact z1, z2⟩
                  · rw [List.mem_singleton] at m
                    subst m
                    exact ⟨p, r, by rw [upd_ne (tup_ne _ _ hWW)]; exact hWW, p1, p2, hbe, hba mr (by omega)⟩
            · exact ifF (decide_eq_false hlt) ⟨_, _, rfl, e89, hZ9, f9.le (by omega)⟩
        · rintro σ H8 ⟨x8, x9, rfl, e8, _, f8⟩
          refine ⟨_, _, _, _, rfl, e8, f8.le ?_⟩
          rw [List.length_map, List.length_drop]
          omega
      · rintro σ H5 ⟨x6, x7, x8, x9, rfl, e5, f5⟩
        refine ⟨_, _, _, _, _, rfl, e5, f5.le ?_⟩
        rw [List.length_map]
        omega
    · rintro σ H4 ⟨x5, x6, x7, x8, x9, rfl, e4, ts, g1, g2, g3⟩
      rw [List.length_map, hll, hlen] at g2
      refine ⟨.ref L, rfl, L, _, rfl, tL g1, fun x hx => ?_, fun ys p perm hp => ?_⟩
      · obtain ⟨t, ht, rfl⟩ := List.mem_map.mp hx
        obtain ⟨x, y, z1, z2⟩ := g3 t ht
        exact ⟨t, x, y, rfl, z1⟩
      refine ⟨p, ys, rfl, .inl ⟨tL upd_same, fun t ht => ?_⟩⟩
      have e5 : Ex H4 (upd H4 p (.lst ys)) := Ex.new hp
      have e6 := e5.trans (Ex.new (o := .tup ys) ht)
      refine q t _ ys (e123.trans (e4.trans e6)) upd_same ?_ fun x hx => ?_
      · rw [perm.length_eq, List.length_map]
        omega
      · obtain ⟨u, hu, rfl⟩ := List.mem_map.mp (perm.mem_iff.mp hx)
        obtain ⟨x, y, z1, z2⟩ := g3 u hu
        exact ⟨u, x, y, rfl, e6 _ _ z1, z2⟩
end
end CkD


set_option linter.all false
set_option maxRecDepth 100000
set_option maxHeartbeats 4000000
/-! full_plan, plan_of, last_calls. -/
namespace CkD
open PySem PySem.Spec PyProof.Rows L2 CkR CkM
open Evl (Ex)
/-- the dict that full_plan keeps -/
def fnd (h : List Int) : List (Key × V) := (ordR h).map fun y => ((Sum.inl y : Key), V.int ((h.count y : Nat) : Int))
theorem drop_map (f : Int → V) (x : Int) : ∀ l : List Int, dropK (l.map fun y => ((Sum.inl y : Key), f y)) (Sum.inl x : Key) = (l.filter fun y => decide (y ≠ x)).map fun y => ((Sum.inl y : Key), f y)
  | [] => rfl
  | a :: r => by
    have ih := drop_map f x r
    rw [List.map_cons]
    by_cases e : a = x
    · rw [dropK_pos (by rw [e]), ih, List.filter_cons_of_neg (p := fun y => decide (y ≠ x)) (by simp [e])]
    · rw [dropK_neg (fun z => e (Sum.inl.inj z)), ih, List.filter_cons_of_pos (p := fun y => decide (y ≠ x)) (by simp [e]), List.map_cons]
theorem fnd_cons (x : Int) (h : List Int) : fnd (x :: h) = ((ordR h).filter fun y => decide (y ≠ x)).map (fun y => ((Sum.inl y : Key), V.int ((h.count y : Nat) : Int))) ++ [((Sum.inl x : Key), V.int (((h.count x : Nat) : Int) + 1))] := by
  show ((ordR h).filter _ ++ [x]).map _ = _
  rw [List.map_append]
  congr 1
  · refine List.map_congr_left fun y hy => ?_
    have ne : y ≠ x := decide_eq_true_iff.mp (List.mem_filter.mp hy).2
    rw [List.count_cons_of_ne (fun z => ne z.symm)]
  · show [((Sum.inl x : Key), V.int (((x :: h).count x : Nat) : Int))] = _
    rw [List.count_cons_self]
    rfl
theorem fnd_put (x : Int) (h : List Int) : putK (dropK (fnd h) (Sum.inl x : Key)) (Sum.inl x : Key) (V.int (((h.count x : Nat) : Int) + 1)) = fnd (x :: h) := by
  unfold fnd
  rw [drop_map]
  have no : x ∉ (ordR h).filter fun y => decide (y ≠ x) := fun m => decide_eq_true_iff.mp (List.mem_filter.mp m).2 rfl
  rw [putK_new _ (val_no no)]
  exact (fnd_cons x h).symm
theorem fnd_none {x : Int} {h : List Int} (n : x ∉ h) : dropK (fnd h) (Sum.inl x : Key) = fnd h := by
  unfold fnd
  rw [drop_map]
  congr 1
  refine List.filter_eq_self.mpr fun y hy => decide_eq_true ?_
  intro e
  exact n (e ▸ mem_ordR.mp hy)
theorem ordR_len : ∀ h : List Int, (ordR h).length ≤ h.length
  | [] => Nat.le_refl _
  | x :: h => by
    have ih := ordR_len h
    show ((ordR h).filter _ ++ [x]).length ≤ _
    have := List.length_filter_le (fun y => decide (y ≠ x)) (ordR h)
    rw [List.length_append, List.length_singleton, List.length_cons]
    omega
/-- the tuples at ms hold the plan's pairs -/
def PlA (H : Hp) (ms : List Addr) (ps : List (Int × Int)) : Prop := ms.length = ps.length ∧ ∀ (i : Nat) (m : Addr) (p : Int × Int), ms[i]? = some m → ps[i]? = some p → H m = some (.tup [.int p.1, .int p.2])
theorem PlA.ex {H H' : Hp} {ms : List Addr} {ps : List (Int × Int)} (o : PlA H ms ps) (e : Ex H H') : PlA H' ms ps := ⟨o.1, fun i l line a b => e _ _ (o.2 i l line a b)⟩
theorem PlA.nil {H : Hp} : PlA H [] [] := ⟨rfl, fun i l line a _ => by simp at a⟩
theorem PlA.snoc {H : Hp} {ms : List Addr} {ps : List (Int × Int)} {m : Addr} {x : Int × Int} (o : PlA H ms ps) (h : H m = some (.tup [.int x.1, .int x.2])) : PlA H (ms ++ [m]) (ps ++ [x]) := by
  refine ⟨by rw [List.length_append, List.length_append, o.1]; rfl, fun i l line a b => ?_⟩
  by_cases hi : i < ms.length
  · rw [List.getElem?_append_left hi] at a
    rw [List.getElem?_append_left (by rw [← o.1]; exact hi)] at b
    exact o.2 i l line a b
  · rw [List.getElem?_append_right (by omega)] at a
    rw [List.getElem?_append_right (by rw [← o.1]; omega)] at b
    by_cases e : i = ms.length
    · subst e
      rw [Nat.sub_self] at a
      rw [o.1, Nat.sub_self] at b
      have e1 : m = l := Option.some.inj a
      have e2 : x = line := Option.some.inj b
      subst e1
      subst e2
      exact h
    · have : (([m] : List Addr))[i - ms.length]? = none := by
        rw [List.getElem?_eq_none]
        show 1 ≤ i - ms.length
        omega
      rw [this] at a
      cases a
theorem PlA.mut {H : Hp} {ms : List Addr} {ps : List (Int × Int)} {L : Addr} {u v : HO} (o : PlA H ms ps) (h : H L = some v) (hv : ∀ xs, v ≠ .tup xs) : PlA (upd H L u) ms ps :=
  ⟨o.1, fun i l line a b => by
    have z := o.2 i l line a b
    rw [upd_ne (ne_of z h fun e => hv _ e.symm)]
    exact z⟩
/-- the plan's pairs -/
def pls (c : Nat) (h : List Int) : List (Int × Int) := (ordR h).map fun y => (y, ((h.count y : Nat) : Int) % (c : Int))
section
variable {P : Program} {w : World} {K : PySem.W.Frag} {mg : Str → Option Value} {base : Heap}
def spFullPlan : Sp := fun vs H Q _ => ∃ (a : Addr) (n c : Nat) (cs : List Int), vs = [.int (c : Int), .ref a] ∧ Rw H a n cs ∧ 1 ≤ c ∧
  ∀ t H' ms, Ex H H' → H' t = some (.tup (ms.map V.ref)) → PlA H' ms (pls c cs.reverse) → Q (.ref t) H'
abbrev nFullPlan : List Str := ["counters", "calls", "found", "person", "many"]
theorem scFullPlan : FnScope nFullPlan ["counters", "calls"] (defScope sFullPlan) := ⟨rfl, rfl, rfl, by decide +kernel, rfl, by decide +kernel, by decide +kernel⟩
theorem ok_fullPlan {f : Addr} {fd : FuncData} (D : Df K mg "full_plan" sFullPlan f fd) (B : Bl mg) : FnOk P w K mg base CX0 1 f fd ["counters", "calls"] spFullPlan := by
  refine D.F.ok scFullPlan (fun vs H Q E h => ?_) (fun cdv A outer s H vs Q E hr h => ?_)
  · obtain ⟨a, n, c, cs, rfl, _⟩ := h
    rfl
  · obtain ⟨a, n, c, cs, rfl, rw_, hc, q⟩ := h
    have hu := hu_of hr
    refine ⟨_, pss_cons (ps_set (i := 2) scFullPlan.nd rfl (.inl rfl) pe_dnewK)
      (pss_cons (ps_for PassesOwn.never rfl (pi_tup (pv 1)) (pg_name (i := 3) scFullPlan.nd rfl (.inl rfl))
        (pss_cons (ps_set (i := 4) scFullPlan.nd rfl (.inl rfl) (pe_dpop2 (pv 2) (pv 3) pe_int ⟨rfl, rfl, rfl, rfl⟩))
        (pss_one (ps_dput hu (pv 2) (pv 3) (pe_op op_add (pv 4) pe_int) rfl))))
      (pss_one (ps_ret (pe_callTy call_tuple_of (by rfl) B.tup b_tup (pa_cons (pe_lock (pe_lc (own := [("person", 3), ("many", 4)]) rfl scFullPlan.nd (pi_items (pv 2)) (blkOk_by (N := nFullPlan) (sc := defScope sFullPlan) (by decide +kernel))
        (fun _ _ _ _ _ => pg_tupK (K := K) (n := 2) rfl rfl (pgs_cons (pg_name (i := 3) scFullPlan.nd rfl (.inl rfl)) (pgs_cons (pg_name (i := 4) scFullPlan.nd rfl (.inl rfl)) pgs_nil)))
        (fun _ _ _ _ _ => pts_nil) (fun _ _ _ _ _ => pe_tup (pa_cons (pv 3) (pa_cons (pe_op op_mod (pv 4) (pv 0)) pa_nil))))) pa_nil))))), ?_⟩
    intro d hd
    have e0 : Ex H (upd H d (.dK [])) := Ex.new hd
    refine ⟨.ref a, rfl, a, rfl, ⟨_, (rw_.at_.ex e0).sq⟩, for_tup (K := K) (a := a) (xs := cs.map V.int) (fun i σ H' => ∃ x3 x4, σ = [some (.int (c : Int)), some (.ref a), some (.ref d), x3, x4] ∧ Ex H H' ∧ H' d = some (.dK (fnd (cs.take i).reverse)))
      ⟨_, _, rfl, e0, upd_same⟩ (fun i σ H' _ ⟨_, _, _, e, _⟩ => (rw_.at_.ex e).sq) ?_ ?_⟩
    · rintro i x σ H1 hx ⟨x3, x4, rfl, e1, hm⟩
      obtain ⟨hi, rfl⟩ := map_at hx
      have hlen : (fnd (cs.take i).reverse).length ≤ 900 := by
        unfold fnd
        rw [List.length_map]
        have z := ordR_len (cs.take i).reverse
        rw [List.length_reverse, List.length_take] at z
        have := rw_.len
        omega
      have hdl : ∀ k : Key, (dropK (fnd (cs.take i).reverse) k).length ≤ 1000 := fun k => Nat.le_trans (dropK_le _ _) (by omega)
      rw [rev_take hi]
      generalize (cs.take i).reverse = h at hm hlen hdl
      generalize cs[i] = p
      refine ⟨.ref d, rfl, d, rfl, .inl ⟨_, .inl hm⟩, .int p, rfl, _, Sum.inl p, hm, rfl, fun v hv => ?_, fun hn => ?_⟩
      · have mo : p ∈ ordR h := by
          refine Classical.byContradiction fun z => ?_
          have hv : valV (fnd h) (Sum.inl p) = some v := hv
          unfold fnd at hv
          rw [val_no z] at hv
          cases hv
        have ev : v = .int ((h.count p : Nat) : Int) := by
          have hv : valV (fnd h) (Sum.inl p) = some v := hv
          unfold fnd at hv
          rw [val_yes mo] at hv
          exact (Option.some.inj hv).symm
        subst ev
        refine ⟨_, rfl, _, 1, rfl, rfl, .ref d, rfl, .int p, rfl, d, _, rfl, DPut.k (k := Sum.inl p) upd_same (small1000 (hdl _)), ?_⟩
        refine ⟨_, _, rfl, Ex.mut (Ex.mut e1 hd) hd, ?_⟩
        rw [upd_same, fnd_put]
      · have mo : p ∉ h := fun m => by
          have hn : valV (fnd h) (Sum.inl p) = none := hn
          unfold fnd at hn
          rw [val_yes (mem_ordR.mpr m)] at hn
          cases hn
        refine ⟨_, rfl, _, 1, rfl, rfl, .ref d, rfl, .int p, rfl, d, _, rfl, DPut.k (k := Sum.inl p) hm (small1000 (by omega)), ?_⟩
        refine ⟨_, _, rfl, Ex.mut e1 hd, ?_⟩
        rw [upd_same, ← fnd_put p h, fnd_none mo, List.count_eq_zero_of_not_mem mo]
        rfl
    · rintro σ H1 ⟨x3, x4, rfl, e1, hm⟩
      rw [List.length_map, rev_all] at hm
      have hol := ordR_len cs.reverse
      rw [List.length_reverse] at hol
      have hr60 := rw_.len
      generalize cs.reverse = h at hm q hol
      refine ⟨d, _, hm, trivial, fun od => ?_⟩
      have e2 : Ex H (upd H1 d (.frz od (.dK (fnd h)))) := Ex.mut e1 hd
      have hd2 : (upd H1 d (.frz od (.dK (fnd h)))) d = some (.frz od (.dK (fnd h))) := upd_same
      generalize upd H1 d (.frz od (.dK (fnd h))) = H2 at e2 hd2
      refine ⟨.ref d, rfl, d, od, fnd h, rfl, hd2, fun L hL => ?_⟩
      refine lc_it (walk_items (d := d) (o := od) (kvs := fnd h)) (fun i H' => Ex H2 H' ∧ ∃ ms : List Addr, H' L = some (.lst (ms.map V.ref)) ∧ PlA H' ms ((pls c h).take i))
        ⟨Ex.new hL, [], upd_same, PlA.nil⟩ (fun i H' _ ⟨e, _⟩ => e _ _ hd2) ?_ ?_
      · rintro i x H3 H4 hi ⟨e3, ms, hL3, pl3⟩ ⟨T, y, z, rfl, nT, rfl, hy, hz⟩
        have hi' : i < (ordR h).length := by
          unfold fnd at hi
          rw [List.length_map] at hi
          exact hi
        have ef : (fnd h)[i]? = some ((Sum.inl (ordR h)[i] : Key), V.int ((h.count (ordR h)[i] : Nat) : Int)) := by
          unfold fnd
          rw [List.getElem?_map, List.getElem?_eq_getElem hi']
          rfl
        have hy : ((fnd h)[i]?.map fun kv => kV kv.1) = some y := hy
        have hz : (fnd h)[i]?.map Prod.snd = some z := hz
        rw [ef] at hy hz
        have ey : y = .int (ordR h)[i] := (Option.some.inj hy).symm
        have ez : z = .int ((h.count (ordR h)[i] : Nat) : Int) := (Option.some.inj hz).symm
        subst ey ez
        have ep : (pls c h)[i]? = some ((ordR h)[i], ((h.count (ordR h)[i] : Nat) : Int) % (c : Int)) := by
          unfold pls
          rw [List.getElem?_map, List.getElem?_eq_getElem hi']
          rfl
        have hlm := pl3.1
        rw [List.length_take] at hlm
        rw [List.take_add_one, ep]
        generalize (ordR h)[i] = p
        have eT : Ex H3 (upd H3 T (.tup [.int p, .int ((h.count p : Nat) : Int)])) := Ex.new nT
        have hTT : (upd H3 T (.tup [.int p, .int ((h.count p : Nat) : Int)])) T = some (.tup [.int p, .int ((h.count p : Nat) : Int)]) := upd_same
        have e4 := e3.trans eT
        have hL4 := eT _ _ hL3
        have pl4 := pl3.ex eT
        generalize upd H3 T (.tup [.int p, .int ((h.count p : Nat) : Int)]) = H4 at hTT e4 hL4 pl4
        refine ⟨T, _, rfl, tT hTT, rfl, _, _, rfl, _, _, rfl, rfl, rfl, ?_⟩
        refine ⟨.int p, rfl, .int ((h.count p : Nat) : Int), rfl, .int (c : Int), rfl, _, (c : Int), rfl, rfl, (by show (0 : Int) < (c : Int); omega), (by show 2 ≤ sizeLine; decide), fun U hU => ?_⟩
        have eU : Ex H4 (upd H4 U (.tup [.int p, .int (((h.count p : Nat) : Int) % (c : Int))])) := Ex.new hU
        have hUU : (upd H4 U (.tup [.int p, .int (((h.count p : Nat) : Int) % (c : Int))])) U = some (.tup [.int p, .int (((h.count p : Nat) : Int) % (c : Int))]) := upd_same
        refine ⟨_, eU _ _ hL4, ?_, Ex.mut (e4.trans eU) hL, ms ++ [U], ?_, ?_⟩
        · rw [List.length_map]
          refine small1000 ?_
          omega
        · rw [upd_same, List.map_append]
          rfl
        · exact PlA.mut (PlA.snoc (x := (p, ((h.count p : Nat) : Int) % (c : Int))) (pl4.ex eU) hUU) (eU _ _ hL4) (fun xs z => by cases z)
      · rintro H3 ⟨e3, ms, hL3, pl3⟩
        have el : (fnd h).length = (pls c h).length := by unfold fnd pls; rw [List.length_map, List.length_map]
        rw [el, List.take_length] at pl3
        have hd3 := e3 _ _ hd2
        refine ⟨hd3, L, ms.map V.ref, rfl, .inl ⟨?_, fun t ht => ?_⟩⟩
        · refine tL ?_
          rw [upd_ne (ne_of hL3 hd3 (by intro z; cases z))]
          exact hL3
        · refine q t _ ms ((Ex.mut (e2.trans e3) hd).trans (Ex.new ht)) upd_same ?_
          exact (PlA.mut pl3 hd3 (fun xs z => by cases z)).ex (Ex.new ht)
end
end CkD


set_option linter.all false
set_option maxRecDepth 100000
set_option maxHeartbeats 4000000
/-! plan_of, last_calls. -/
namespace CkD
open PySem PySem.Spec PyProof.Rows L2 CkR CkM
open Evl (Ex)
/-- a person's last call as a value -/
def lastV (p : Int) (h : List Int) : V := if last p h = -1 then .non else .int (last p h)
def lsts (n : Nat) (h : List Int) : List V := (List.range n).map fun p => lastV (p : Nat) h
theorem lsts_nil (n : Nat) : (List.replicate n [V.non]).flatten = lsts n [] := by
  have e : ∀ m : Nat, (List.replicate m [V.non]).flatten = List.replicate m V.non := fun m => by
    induction m with
    | zero => rfl
    | succ m ih =>
      rw [List.replicate_succ, List.flatten_cons, ih]
      rfl
  rw [e]
  unfold lsts
  refine List.ext_getElem? fun i => ?_
  rw [List.getElem?_map]
  by_cases hi : i < n
  · rw [List.getElem?_eq_getElem (by rw [List.length_replicate]; exact hi), List.getElem?_eq_getElem (by rw [List.length_range]; exact hi), List.getElem_replicate]
    rfl
  · rw [List.getElem?_eq_none (by rw [List.length_replicate]; omega), List.getElem?_eq_none (by rw [List.length_range]; omega)]
    rfl
theorem lsts_set (n : Nat) (h : List Int) (p : Nat) (hp : p < n) : (lsts n h).set p (.int (h.length : Int)) = lsts n ((p : Int) :: h) := by
  refine List.ext_getElem? fun i => ?_
  unfold lsts
  rw [List.getElem?_set, List.length_map, List.length_range, List.getElem?_map, List.getElem?_map]
  by_cases e : p = i
  · subst e
    rw [if_pos rfl, if_pos hp, List.getElem?_eq_getElem (by rw [List.length_range]; exact hp), List.getElem_range]
    show some (V.int (h.length : Int)) = some (lastV ((p : Nat) : Int) (((p : Nat) : Int) :: h))
    unfold lastV
    rw [last_pos rfl, if_neg (by omega)]
  · rw [if_neg e]
    by_cases hi : i < n
    · rw [List.getElem?_eq_getElem (by rw [List.length_range]; exact hi), List.getElem_range]
      show some (lastV ((i : Nat) : Int) h) = some (lastV ((i : Nat) : Int) (((p : Nat) : Int) :: h))
      unfold lastV
      rw [last_neg (by omega)]
    · rw [List.getElem?_eq_none (by rw [List.length_range]; omega)]
      rfl
theorem lsts_len (n : Nat) (h : List Int) : (lsts n h).length = n := by unfold lsts; rw [List.length_map, List.length_range]
theorem lsts_at {n : Nat} {h : List Int} {p : Int} (hp : Per n p) : atI (lsts n h) p = some (lastV p h) := by
  obtain ⟨h0, h1⟩ := hp
  refine at_of (j := p.toNat) (by omega) ?_
  unfold lsts
  rw [List.getElem?_map, List.getElem?_eq_getElem (by rw [List.length_range]; omega), List.getElem_range]
  show some (lastV ((p.toNat : Nat) : Int) h) = _
  rw [Int.toNat_of_nonneg h0]
section
variable {P : Program} {w : World} {K : PySem.W.Frag} {mg : Str → Option Value} {base : Heap}
def spPlanOf : Sp := fun vs H Q _ => ∃ (o a : Addr) (n c : Nat) (cs : List Int), vs = [.ref o, .ref a] ∧ Ofc H o n c ∧ Rw H a n cs ∧
  ∀ t H' ms, Ex H H' → H' t = some (.tup (ms.map V.ref)) → PlA H' ms (pls c cs.reverse) → Q (.ref t) H'
theorem scPlanOf : FnScope ["office", "calls"] ["office", "calls"] (defScope sPlanOf) := ⟨rfl, rfl, rfl, by decide +kernel, rfl, by decide +kernel, by decide +kernel⟩
theorem ok_planOf {f f1 f2 f3 : Addr} {fd fd1 fd2 fd3 : FuncData} (D : Df K mg "plan_of" sPlanOf f fd) (C1 : Cal P w K mg base 3 "need_office" ["office"] spNeedOffice f1 fd1) (C2 : Cal P w K mg base 3 "need_calls" ["office", "calls"] spNeedCalls f2 fd2)
    (C3 : Cal P w K mg base 1 "full_plan" ["counters", "calls"] spFullPlan f3 fd3) : FnOk P w K mg base CX0 4 f fd ["office", "calls"] spPlanOf := by
  refine D.F.ok scPlanOf (fun vs H Q E h => ?_) (fun cdv A outer s H vs Q E hr h => ?_)
  · obtain ⟨o, a, n, c, cs, rfl, _⟩ := h
    rfl
  · obtain ⟨o, a, n, c, cs, rfl, ho, rw_, q⟩ := h
    have hr1 : Room 1 _ := hr.mono (by decide)
    refine ⟨_, pss_cons (ps_expr (pe_call C1.ok hr (by rfl) C1.g C1.kp C1.b .nil pass0 (pa_cons (pv 0) pa_nil)))
      (pss_cons (ps_expr (pe_call C2.ok hr (by rfl) C2.g C2.kp C2.b .nil pass0 (pa_cons (pv 0) (pa_cons (pv 1) pa_nil))))
      (pss_one (ps_ret (pe_call C3.ok hr1 (by rfl) C3.g C3.kp C3.b .nil pass0 (pa_cons (pe_ix ix_tup (pv 0) pe_int (fun _ _ => rfl)) (pa_cons (pv 1) pa_nil)))))), ?_⟩
    refine ⟨.ref o, rfl, o, n, c, rfl, ho, ?_⟩
    refine ⟨.ref o, rfl, .ref a, rfl, o, a, n, c, cs, rfl, ho, rw_, fun H1 e1 => ?_⟩
    have ho1 := ho.ex e1
    exact ⟨.ref o, rfl, o, _, 1, _, rfl, rfl, tT ho1.at_, at1, .ref a, rfl, a, n, c, cs, rfl, rw_.ex e1, ho.c1, fun t H2 ms e2 ht pl => q t H2 ms (e1.trans e2) ht pl⟩
def spLastCalls : Sp := fun vs H Q _ => ∃ (o a : Addr) (n c : Nat) (cs : List Int), vs = [.ref o, .ref a] ∧ Ofc H o n c ∧ Rw H a n cs ∧
  ∀ t H', Ex H H' → H' t = some (.tup (lsts n cs.reverse)) → Q (.ref t) H'
theorem scLastCalls : FnScope ["office", "calls", "found", "at", "person"] ["office", "calls"] (defScope sLastCalls) := ⟨rfl, rfl, rfl, by decide +kernel, rfl, by decide +kernel, by decide +kernel⟩
theorem ok_lastCalls {f f1 f2 : Addr} {fd fd1 fd2 : FuncData} (D : Df K mg "last_calls" sLastCalls f fd) (C1 : Cal P w K mg base 3 "need_office" ["office"] spNeedOffice f1 fd1) (C2 : Cal P w K mg base 3 "need_calls" ["office", "calls"] spNeedCalls f2 fd2)
    (B : Bl mg) : FnOk P w K mg base CX0 4 f fd ["office", "calls"] spLastCalls := by
  refine D.F.ok scLastCalls (fun vs H Q E h => ?_) (fun cdv A outer s H vs Q E hr h => ?_)
  · obtain ⟨o, a, n, c, cs, rfl, _⟩ := h
    rfl
  · obtain ⟨o, a, n, c, cs, rfl, ho, rw_, q⟩ := h
    refine ⟨_, pss_cons (ps_expr (pe_call C1.ok hr (by rfl) C1.g C1.kp C1.b .nil pass0 (pa_cons (pv 0) pa_nil)))
      (pss_cons (ps_expr (pe_call C2.ok hr (by rfl) C2.g C2.kp C2.b .nil pass0 (pa_cons (pv 0) (pa_cons (pv 1) pa_nil))))
      (pss_cons (ps_set (i := 2) scLastCalls.nd rfl (.inl rfl) (pe_op op_rep (pe_lst (pa_cons pe_non pa_nil)) (pe_ix ix_tup (pv 0) pe_int (fun _ _ => rfl))))
      (pss_cons (ps_for PassesOwn.never rfl (pi_enumT (by rfl) B.enu (pa_cons (pv 1) pa_nil)) (pg_tup rfl (pgs_cons (pg_name (i := 3) scLastCalls.nd rfl (.inl rfl)) (pgs_cons (pg_name (i := 4) scLastCalls.nd rfl (.inl rfl)) pgs_nil)))
        (pss_one (ps_asg (pv 3) (pg_sub (pv 2) (pv 4) set_list))))
      (pss_one (ps_ret (pe_callTy call_tuple_of (by rfl) B.tup b_tup (pa_cons (pv 2) pa_nil))))))), ?_⟩
    have hn7 := ho.n7
    refine ⟨.ref o, rfl, o, n, c, rfl, ho, ?_⟩
    refine ⟨.ref o, rfl, .ref a, rfl, o, a, n, c, cs, rfl, ho, rw_, fun H1 e1 => ?_⟩
    refine ⟨(by show 1 ≤ sizeLine; decide), fun M hM => ?_⟩
    have e2 : Ex H1 (upd H1 M (.lst [.non])) := Ex.new hM
    have hM2 : (upd H1 M (.lst [.non])) M = some (.lst [.non]) := upd_same
    generalize upd H1 M (.lst [.non]) = H2 at e2 hM2
    have e12 := e1.trans e2
    refine ⟨.ref o, rfl, o, _, 0, _, rfl, rfl, tT (ho.ex e12).at_, at0, M, (n : Int), [.non], rfl, rfl, hM2, by omega, by omega, ?_, fun L hL => ?_⟩
    · show 1 * ((n : Int)).toNat ≤ sizeLine
      rw [Int.toNat_natCast]
      exact Nat.le_of_lt (small1000 (by omega))
    rw [Int.toNat_natCast, lsts_nil]
    have e3 : Ex H2 (upd H2 L (.lst (lsts n []))) := Ex.new hL
    refine ⟨.ref a, rfl, a, _, rfl, (rw_.at_.ex (e12.trans e3)).sq, for_it (walk_enumT (K := K) (a := a) (xs := cs.map V.int)) (fun i σ H' => ∃ x3 x4, σ = [some (.ref o), some (.ref a), some (.ref L), x3, x4] ∧ Ex H2 H' ∧ H' L = some (.lst (lsts n (cs.take i).reverse)))
      ⟨_, _, rfl, e3, upd_same⟩ (fun i σ H' _ ⟨_, _, _, e, _⟩ => (rw_.at_.ex (e12.trans e)).sq) ?_ ?_⟩
    · rintro i x σ H3 H4 hi ⟨x3, x4, rfl, e4, hm⟩ ⟨T, y, z, rfl, nT, rfl, hy, hz⟩
      obtain rfl := Option.some.inj hy
      obtain ⟨hi', rfl⟩ := map_at hz
      have hp := rw_.per _ (List.getElem_mem hi')
      have hl : (((cs.take i).reverse.length : Nat) : Int) = (i : Int) := by rw [List.length_reverse, List.length_take]; omega
      rw [rev_take hi']
      generalize (cs.take i).reverse = h at hm hl
      generalize cs[i] = p at hp
      have eT : Ex H3 (upd H3 T (.tup [.int (i : Nat), .int p])) := Ex.new nT
      have hTT : (upd H3 T (.tup [.int (i : Nat), .int p])) T = some (.tup [.int (i : Nat), .int p]) := upd_same
      have e5 := e4.trans eT
      have hm5 := eT _ _ hm
      generalize upd H3 T (.tup [.int (i : Nat), .int p]) = H5 at hTT e5 hm5
      refine ⟨T, _, rfl, tT hTT, rfl, _, _, rfl, _, _, rfl, rfl, ?_⟩
      obtain ⟨h0, h1⟩ := hp
      refine ⟨.int (i : Nat), rfl, .ref L, rfl, .int p, rfl, L, _, p, p.toNat, rfl, rfl, hm5, ?_, ?_⟩
      · unfold ixN
        rw [if_pos h0, if_pos (by rw [lsts_len]; exact h1)]
      · refine ⟨_, _, rfl, Ex.mut e5 hL, ?_⟩
        have z := lsts_set n h p.toNat (by omega)
        rw [Int.toNat_of_nonneg h0, hl] at z
        rw [upd_same, z]
    · rintro σ H3 ⟨x3, x4, rfl, e4, hm⟩
      rw [List.length_map, rev_all] at hm
      exact ⟨.ref L, rfl, L, _, rfl, .inl ⟨tL hm, fun t ht => q t _ ((e12.trans e4).trans (Ex.new ht)) upd_same⟩⟩
end
end CkD


set_option linter.all false
set_option maxRecDepth 100000
set_option maxHeartbeats 4000000
/-! The law's draws: a number, a state, a row. -/
namespace CkD
open PySem PySem.Spec PyProof.Rows L2 CkR CkM
open Evl (Ex)
/-- only what stands at p may be another -/
def Off (p : Addr) (H H' : Hp) : Prop := ∀ b, b ≠ p → H' b = H b
theorem Off.upd {p : Addr} {H : Hp} {u : HO} : Off p H (upd H p u) := fun b h => upd_ne h
theorem Off.trans {p : Addr} {H H1 H2 : Hp} (a : Off p H H1) (b : Off p H1 H2) : Off p H H2 := fun x h => (b x h).trans (a x h)
theorem Off.ex {p : Addr} {H H1 H2 : Hp} (a : Off p H1 H2) (e : Ex H H1) (h : H p = none) : Ex H H2 := fun x o hx => (a x (ne_of_none hx h)).trans (e x o hx)
theorem Off.at_ {p b : Addr} {H H' : Hp} {ys : List V} {o : HO} (a : Off p H H') (hp : H p = some (.lst ys)) (hb : H b = some o) (ho : ∀ zs, o ≠ .lst zs) : H' b = some o := (a b (ne_of hb hp (ho ys))).trans hb
/-- what the draws keep at p -/
def DrawAt (H : Hp) (p a : Addr) : Prop := ∃ i z r : Int, H p = some (.lst [.ref a, .int i, .int z, .int r]) ∧ 0 ≤ i ∧ 0 ≤ z ∧ z < 2147483647
/-- all that stood stands, but for what stands at p -/
def ExP (p : Addr) (H H' : Hp) : Prop := ∀ b u, b ≠ p → H b = some u → H' b = some u
theorem ExP.refl {p : Addr} {H : Hp} : ExP p H H := fun _ _ _ h => h
theorem ExP.trans {p : Addr} {H H1 H2 : Hp} (a : ExP p H H1) (b : ExP p H1 H2) : ExP p H H2 := fun x u n h => b x u n (a x u n h)
theorem ExP.off {p : Addr} {H H' : Hp} (a : Off p H H') : ExP p H H' := fun x u n h => (a x n).trans h
theorem ExP.of {p : Addr} {H H' : Hp} (e : Ex H H') : ExP p H H' := fun x u _ h => e x u h
/-- what H does not know may change -/
theorem ExP.mut {p q : Addr} {H H' : Hp} {u : HO} (e : ExP p H H') (h : H q = none) : ExP p H (upd H' q u) := fun x v n hx => by
  rw [upd_ne (ne_of_none hx h)]
  exact e x v n hx
theorem ExP.ex {p : Addr} {H H1 H2 : Hp} (a : ExP p H1 H2) (e : Ex H H1) (h : H p = none) : Ex H H2 := fun x o hx => a x o (ne_of_none hx h) (e x o hx)
theorem ExP.at_ {p b : Addr} {H H' : Hp} {ys : List V} {o : HO} (a : ExP p H H') (hp : H p = some (.lst ys)) (hb : H b = some o) (ho : ∀ zs, o ≠ .lst zs) : H' b = some o := a b o (ne_of hb hp (ho ys)) hb
theorem DrawAt.ex {H H' : Hp} {p a : Addr} (d : DrawAt H p a) (e : H' p = H p) : DrawAt H' p a := by
  obtain ⟨i, z, r, h, r1⟩ := d
  exact ⟨i, z, r, e.trans h, r1⟩
theorem DrawAt.lst {H : Hp} {p a : Addr} (d : DrawAt H p a) : ∃ ys, H p = some (.lst ys) := by
  obtain ⟨i, z, r, h, r1⟩ := d
  exact ⟨_, h⟩
section
variable {P : Program} {w : World} {K : PySem.W.Frag} {mg : Str → Option Value} {base : Heap}
def spTaken (K : PySem.W.Frag) : Sp := fun vs H Q _ => ∃ (p a : Addr) (ns : List Int) (m : Int), vs = [.ref p, .int m] ∧ DrawAt H p a ∧ (∀ H', ExP p H H' → SqL K H' a (ns.map V.int)) ∧ 1 ≤ m ∧ m ≤ 1000 ∧
  ∀ (v : Int) H', 0 ≤ v → v < m → Off p H H' → DrawAt H' p a → Q (.int v) H'
theorem scTaken : FnScope ["_law_row_here", "_law_many", "_law_found", "_law_cell"] ["_law_row_here", "_law_many"] (defScope sTaken) := ⟨rfl, rfl, rfl, by decide +kernel, rfl, by decide +kernel, by decide +kernel⟩
theorem ok_taken {f : Addr} {fd : FuncData} (D : Df K mg "_law_taken" sTaken f fd) (B : Bl mg) : FnOk P w K mg base CX0 1 f fd ["_law_row_here", "_law_many"] (spTaken K) := by
  refine D.F.ok scTaken (fun vs H Q E h => ?_) (fun cdv A outer s H vs Q E hr h => ?_)
  · obtain ⟨p, a, ns, m, rfl, _⟩ := h
    rfl
  · obtain ⟨p, a, ns, m, rfl, ⟨i, z, r, hp, hi, hz0, hz1⟩, hS, hm1, hm2, q⟩ := h
    refine ⟨_, pss_cons (ps_if (pt_cmpR op_gt (pe_ix ix_list (pv 0) pe_int (fun _ _ => rfl)) pe_int (nomark _))
        (pss_cons (ps_set (i := 2) scTaken.nd rfl (.inl rfl) (pe_op op_mod (pe_callTy call_int1 (by rfl) B.int b_int (pa_cons (pe_ix ix_list (pv 0) pe_int (fun _ _ => rfl)) pa_nil)) (pv 1)))
        (pss_cons (ps_asg (pe_op op_fdiv (pe_ix ix_list (pv 0) pe_int (fun _ _ => rfl)) (pv 1)) (pg_sub (pv 0) pe_int set_list))
        (pss_one (ps_ret (pv 2))))) pss_nil)
      (pss_cons (ps_asg (pe_op op_add (pe_ix ix_list (pv 0) pe_int (fun _ _ => rfl)) pe_int) (pg_sub (pv 0) pe_int set_list))
      (pss_cons (ps_if (pt_cmpR op_gt (pe_ix ix_list (pv 0) pe_int (fun _ _ => rfl)) (pe_callB call_len_seq (by rfl) B.len b_len (pa_cons (pe_ix ix_list (pv 0) pe_int (fun _ _ => rfl)) pa_nil)) (nomark _))
        (pss_cons (ps_asg (pe_op op_mod (pe_callTy call_int1 (by rfl) B.int b_int (pa_cons (pe_op op_add (pe_op op_mul (pe_ix ix_list (pv 0) pe_int (fun _ _ => rfl)) pe_int) pe_int) pa_nil)) pe_int) (pg_sub (pv 0) pe_int set_list))
        (pss_one (ps_ret (pe_op op_mod (pe_callTy call_int1 (by rfl) B.int b_int (pa_cons (pe_op op_fdiv (pe_ix ix_list (pv 0) pe_int (fun _ _ => rfl)) pe_int) pa_nil)) (pv 1))))) pss_nil)
      (pss_cons (ps_set (i := 3) scTaken.nd rfl (.inl rfl) (pe_ix ix_list (pe_ix ix_list (pv 0) pe_int (fun _ _ => rfl)) (pe_op op_sub (pe_ix ix_list (pv 0) pe_int (fun _ _ => rfl)) pe_int) (fun _ _ => rfl)))
      (pss_cons (ps_asg (pe_op op_mod (pe_callTy call_int1 (by rfl) B.int b_int (pa_cons (pe_op op_add (pe_op op_add (pe_op op_mul (pe_ix ix_list (pv 0) pe_int (fun _ _ => rfl)) pe_int) (pv 3)) pe_int) pa_nil)) pe_int) (pg_sub (pv 0) pe_int set_list))
      (pss_cons (ps_if (pt_cmpR op_ge (pv 3) (pe_op op_pow pe_int pe_int) (nomark _))
        (pss_one (ps_asg (pe_op op_fdiv (pv 3) (pv 1)) (pg_sub (pv 0) pe_int set_list))) pss_nil)
      (pss_one (ps_ret (pe_op op_mod (pe_callTy call_int1 (by rfl) B.int b_int (pa_cons (pv 3) pa_nil)) (pv 1))))))))), ?_⟩
    have m0 : (0 : Int) < m := by omega
    have md : CDiv m m := ⟨by omega, by omega⟩
    have a3 : ∀ {x0 x1 x2 x3 : V}, atI [x0, x1, x2, x3] 3 = some x3 := fun {x0 x1 x2 x3} => atI_nat (j := 3) rfl
    have a2 : ∀ {x0 x1 x2 x3 : V}, atI [x0, x1, x2, x3] 2 = some x2 := fun {x0 x1 x2 x3} => atI_nat (j := 2) rfl
    refine ⟨.ref p, rfl, p, _, 3, _, rfl, rfl, tL hp, a3, r, 0, rfl, rfl, _, rfl, ?_⟩
    by_cases hr0 : 0 < r
    · refine ifT (decide_eq_true hr0) ?_
      refine ⟨.ref p, rfl, p, _, 3, _, rfl, rfl, tL hp, a3, .inl ⟨r, rfl, .int m, rfl, r, m, rfl, rfl, m0, ?_⟩⟩
      refine ⟨.ref p, rfl, p, _, 3, _, rfl, rfl, tL hp, a3, .int m, rfl, r, m, rfl, rfl, ⟨by omega, by omega⟩, ?_⟩
      refine ⟨.ref p, rfl, p, _, 3, 3, rfl, rfl, hp, rfl, ?_⟩
      refine ⟨_, rfl, ?_⟩
      exact q _ _ (Int.emod_nonneg _ (by omega)) (Int.emod_lt_of_pos _ m0) Off.upd ⟨i, z, _, upd_same, hi, hz0, hz1⟩
    · refine ifF (decide_eq_false hr0) ?_
      refine ⟨.ref p, rfl, p, _, 1, _, rfl, rfl, tL hp, at1, i, 1, rfl, rfl, .ref p, rfl, p, _, 1, 1, rfl, rfl, hp, rfl, ?_⟩
      dsimp only
      have hp1 : (upd H p (.lst ([V.ref a, .int i, .int z, .int r].set 1 (.int (i + 1))))) p = some (.lst [.ref a, .int (i + 1), .int z, .int r]) := upd_same
      have o1 : Off p H (upd H p (.lst ([V.ref a, .int i, .int z, .int r].set 1 (.int (i + 1))))) := Off.upd
      generalize upd H p (.lst ([V.ref a, .int i, .int z, .int r].set 1 (.int (i + 1)))) = H1 at hp1 o1
      have hS1 := hS H1 (.off o1)
      refine ⟨.ref p, rfl, p, _, 1, _, rfl, rfl, tL hp1, at1, .ref p, rfl, p, _, 0, _, rfl, rfl, tL hp1, at0, a, _, rfl, .inl hS1, i + 1, _, rfl, rfl, _, rfl, ?_⟩
      rw [List.length_map]
      by_cases hgt : ((ns.length : Nat) : Int) < i + 1
      · refine ifT (decide_eq_true hgt) ?_
        refine ⟨.ref p, rfl, p, _, 2, _, rfl, rfl, tL hp1, a2, z, 48271, rfl, rfl, .inl ⟨by omega, by omega⟩, _, 11, rfl, rfl, .inl ⟨_, rfl, _, 2147483647, rfl, rfl, (by show (0 : Int) < 2147483647; decide), ?_⟩⟩
        refine ⟨.ref p, rfl, p, _, 2, 2, rfl, rfl, hp1, rfl, ?_⟩
        dsimp only
        have hz2 := Int.emod_nonneg (z * 48271 + 11) (show (2147483647 : Int) ≠ 0 by decide)
        have hz3 := Int.emod_lt_of_pos (z * 48271 + 11) (show (0 : Int) < 2147483647 by decide)
        generalize (z * 48271 + 11) % 2147483647 = z2 at hz2 hz3
        have hp2 : (upd H1 p (.lst ([V.ref a, .int (i + 1), .int z, .int r].set 2 (.int z2)))) p = some (.lst [.ref a, .int (i + 1), .int z2, .int r]) := upd_same
        have o2 : Off p H (upd H1 p (.lst ([V.ref a, .int (i + 1), .int z, .int r].set 2 (.int z2)))) := o1.trans Off.upd
        generalize upd H1 p (.lst ([V.ref a, .int (i + 1), .int z, .int r].set 2 (.int z2))) = H2 at hp2 o2
        refine ⟨.ref p, rfl, p, _, 2, _, rfl, rfl, tL hp2, a2, z2, 7, rfl, rfl, ⟨by decide, by decide⟩, .inl ⟨_, rfl, .int m, rfl, _, m, rfl, rfl, m0, ?_⟩⟩
        exact q _ _ (Int.emod_nonneg _ (by omega)) (Int.emod_lt_of_pos _ m0) o2 ⟨i + 1, z2, r, hp2, by omega, hz2, hz3⟩
      · refine ifF (decide_eq_false hgt) ?_
        have hiL : i.toNat < ns.length := by omega
        have hcell : (ns.map V.int)[i.toNat]? = some (.int ns[i.toNat]) := by
          rw [List.getElem?_map, List.getElem?_eq_getElem hiL]
          rfl
        generalize ns[i.toNat] = x at hcell
        refine ⟨.ref p, rfl, p, _, 0, _, rfl, rfl, tL hp1, at0, .ref p, rfl, p, _, 1, _, rfl, rfl, tL hp1, at1, i + 1, 1, rfl, rfl, a, _, _, _, rfl, rfl, hS1, at_of (j := i.toNat) (by omega) hcell, ?_⟩
        refine ⟨.ref p, rfl, p, _, 2, _, rfl, rfl, tL hp1, a2, z, 48271, rfl, rfl, .inl ⟨by omega, by omega⟩, .int x, rfl, _, x, rfl, rfl, _, 11, rfl, rfl, .inl ⟨_, rfl, _, 2147483647, rfl, rfl, (by show (0 : Int) < 2147483647; decide), ?_⟩⟩
        refine ⟨.ref p, rfl, p, _, 2, 2, rfl, rfl, hp1, rfl, ?_⟩
        dsimp only
        have hz2 := Int.emod_nonneg (z * 48271 + x + 11) (show (2147483647 : Int) ≠ 0 by decide)
        have hz3 := Int.emod_lt_of_pos (z * 48271 + x + 11) (show (0 : Int) < 2147483647 by decide)
        generalize (z * 48271 + x + 11) % 2147483647 = z2 at hz2 hz3
        have hp2 : (upd H1 p (.lst ([V.ref a, .int (i + 1), .int z, .int r].set 2 (.int z2)))) p = some (.lst [.ref a, .int (i + 1), .int z2, .int r]) := upd_same
        have o2 : Off p H (upd H1 p (.lst ([V.ref a, .int (i + 1), .int z, .int r].set 2 (.int z2)))) := o1.trans Off.upd
        generalize upd H1 p (.lst ([V.ref a, .int (i + 1), .int z, .int r].set 2 (.int z2))) = H2 at hp2 o2
        refine ⟨.int x, rfl, 10, 18, rfl, rfl, ⟨by decide, by decide, by decide⟩, x, _, rfl, rfl, _, rfl, ?_⟩
        have fin : ∀ (H3 : Hp) (r2 : Int), Off p H H3 → H3 p = some (.lst [.ref a, .int (i + 1), .int z2, .int r2]) → Q (.int (x % m)) H3 := fun H3 r2 o3 h3 =>
          q _ _ (Int.emod_nonneg _ (by omega)) (Int.emod_lt_of_pos _ m0) o3 ⟨i + 1, z2, r2, h3, by omega, hz2, hz3⟩
        refine ite2 (fun _ => ?_) (fun _ => ?_)
        · refine ⟨.int x, rfl, .int m, rfl, x, m, rfl, rfl, ⟨by omega, by omega⟩, .ref p, rfl, p, _, 3, 3, rfl, rfl, hp2, rfl, ?_⟩
          exact ⟨.int x, rfl, .inl ⟨x, rfl, .int m, rfl, x, m, rfl, rfl, m0, fin _ _ (o2.trans Off.upd) upd_same⟩⟩
        · exact ⟨.int x, rfl, .inl ⟨x, rfl, .int m, rfl, x, m, rfl, rfl, m0, fin _ _ o2 hp2⟩⟩
end
end CkD


set_option linter.all false
set_option maxRecDepth 100000
set_option maxHeartbeats 4000000
/-! The law's drawn row. -/
namespace CkD
open PySem PySem.Spec PyProof.Rows L2 CkR CkM
open Evl (Ex)
theorem ExP.free {p q : Addr} {H H' : Hp} {u : HO} (e : ExP p H H') (hp : H' p = some u) (h : H' q = none) : H q = none := by
  cases z : H q with
  | none => rfl
  | some v =>
    have n : q ≠ p := fun x => by
      rw [x, hp] at h
      cases h
    rw [e q v n z] at h
    cases h
theorem Ofc.exP {p o : Addr} {H H' : Hp} {n c : Nat} {ys : List V} (h : Ofc H o n c) (e : ExP p H H') (hp : H p = some (.lst ys)) : Ofc H' o n c :=
  ⟨e.at_ hp h.at_ (fun zs z => by cases z), h.n1, h.n7, h.c1, h.c6⟩
section
variable {P : Program} {w : World} {K : PySem.W.Frag} {mg : Str → Option Value} {base : Heap}
def spDrawRow (K : PySem.W.Frag) : Sp := fun vs H Q _ => ∃ (p a o : Addr) (ns : List Int) (n c many : Nat), vs = [.ref p, .ref o, .int (many : Int)] ∧ DrawAt H p a ∧ (∀ H', ExP p H H' → SqL K H' a (ns.map V.int)) ∧ Ofc H o n c ∧ many ≤ 50 ∧
  ∀ r H' cs, ExP p H H' → DrawAt H' p a → Rw H' r n cs → Q (.ref r) H'
abbrev nDrawRow : List Str := ["_law_row_here", "_law_office", "_law_many", "_law_turn"]
theorem scDrawRow : FnScope nDrawRow ["_law_row_here", "_law_office", "_law_many"] (defScope sDrawRow) := ⟨rfl, rfl, rfl, by decide +kernel, rfl, by decide +kernel, by decide +kernel⟩
theorem ok_drawRow {f f1 : Addr} {fd fd1 : FuncData} (D : Df K mg "_law_row" sDrawRow f fd) (C1 : Cal P w K mg base 1 "_law_taken" ["_law_row_here", "_law_many"] (spTaken K) f1 fd1) (B : Bl mg) :
    FnOk P w K mg base CX0 2 f fd ["_law_row_here", "_law_office", "_law_many"] (spDrawRow K) := by
  refine D.F.ok scDrawRow (fun vs H Q E h => ?_) (fun cdv A outer s H vs Q E hr h => ?_)
  · obtain ⟨p, a, o, ns, n, c, many, rfl, _⟩ := h
    rfl
  · obtain ⟨p, a, o, ns, n, c, many, rfl, d, hS, ho, hmany, q⟩ := h
    refine ⟨_, pss_one (ps_ret (pe_callTy (call_tupF (K := K) rfl) (by rfl) B.tup b_tup (pa_cons (pe_lc (own := [("_law_turn", 3)]) rfl scDrawRow.nd
      (pi_range1 (by rfl) B.rng (pa_cons (pe_call C1.ok hr (by rfl) C1.g C1.kp C1.b .nil pass0 (pa_cons (pv 0) (pa_cons (pe_op op_add (pv 2) pe_int) pa_nil))) pa_nil)) (blkOk_by (N := nDrawRow) (sc := defScope sDrawRow) (by decide +kernel))
      (fun _ _ _ _ _ => pg_name (i := 3) scDrawRow.nd rfl (.inl rfl)) (fun _ _ _ _ _ => pts_nil)
      (fun _ _ _ _ _ => pe_call C1.ok hr (by rfl) C1.g C1.kp C1.b .nil pass0 (pa_cons (pv 0) (pa_cons (pe_ix (ix_tupK (K := K) rfl) (pv 1) pe_int (fun _ _ => rfl)) pa_nil)))) pa_nil))), ?_⟩
    have hn1 := ho.n1
    have hn7 := ho.n7
    obtain ⟨ys, hp⟩ := d.lst
    refine ⟨.ref p, rfl, .int (many : Int), rfl, _, 1, rfl, rfl, p, a, ns, (many : Int) + 1, rfl, d, hS, by omega, by omega, fun v H1 v0 v1 o1 d1 => ?_⟩
    refine ⟨v, rfl, by omega, by omega, fun L hL => ?_⟩
    have x1 : ExP p H H1 := .off o1
    obtain ⟨ys1, hp1⟩ := d1.lst
    have hL0 : H L = none := x1.free hp1 hL
    have npL : p ≠ L := ne_of_none hp1 hL
    refine lc_range (lo := 0) (n := v.toNat) (fun i H' => ExP p H H' ∧ DrawAt H' p a ∧ ∃ cs : List Int, H' L = some (.lst (cs.map V.int)) ∧ cs.length = i ∧ ∀ x ∈ cs, Per n x)
      ⟨x1.mut hL0, d1.ex (upd_ne npL), [], upd_same, rfl, fun x hx => by simp at hx⟩ ?_ ?_
    · rintro i H2 hi ⟨x2, d2, cs, hL2, hcl, hper⟩
      obtain ⟨ys2, hp2⟩ := d2.lst
      have ho2 := ho.exP x2 hp
      refine ⟨rfl, ?_⟩
      refine ⟨.ref p, rfl, .ref o, rfl, o, _, 0, _, rfl, rfl, tT ho2.at_, at0, p, a, ns, (n : Int), rfl, d2, fun H' e => hS H' (x2.trans e), by omega, by omega, fun y H3 y0 y1 o3 d3 => ?_⟩
      have hL3 : H3 L = some (.lst (cs.map V.int)) := (o3 L (fun z => npL z.symm)).trans hL2
      refine ⟨_, hL3, ?_, (x2.trans (.off o3)).mut hL0, d3.ex (upd_ne npL), cs ++ [y], ?_, ?_, fun x hx => ?_⟩
      · rw [List.length_map, hcl]
        exact small1000 (by omega)
      · rw [upd_same, List.map_append]
        rfl
      · rw [List.length_append, hcl]
        rfl
      · rcases List.mem_append.mp hx with m | m
        · exact hper x m
        · rw [List.mem_singleton] at m
          subst m
          exact ⟨y0, y1⟩
    · rintro H2 ⟨x2, d2, cs, hL2, hcl, hper⟩
      refine ⟨L, _, rfl, tL hL2, fun r ob hr' hob => ?_⟩
      obtain ⟨ys2, hp2⟩ := d2.lst
      exact q r _ cs (x2.trans (.of (Ex.new hr'))) (d2.ex (upd_ne (ne_of_none hp2 hr'))) ⟨TuO.new hob, by omega, hper⟩
end
end CkD


set_option linter.all false
set_option maxRecDepth 100000
set_option maxHeartbeats 4000000
/-! The law's drawn state. -/
namespace CkD
open PySem PySem.Spec PyProof.Rows L2 CkR CkM
open Evl (Ex)
/-- the lists at ms hold the lines of T -/
def LnA (H : Hp) (ms : List Addr) (T : Lines) : Prop := ms.length = T.length ∧ ∀ (i : Nat) (m : Addr) (line : List Int), ms[i]? = some m → T[i]? = some line → H m = some (.lst (line.map V.int))
theorem LnA.upd {H : Hp} {ms : List Addr} {T : Lines} {k : Nat} {x : List Int} (hk : k < ms.length) (hn : ms.Nodup) (o : LnA H ms T) : LnA (upd H ms[k] (.lst (x.map V.int))) ms (T.set k x) := by
  refine ⟨by rw [List.length_set, o.1], fun i m line a b => ?_⟩
  rw [List.getElem?_set] at b
  obtain ⟨hi, ei⟩ := List.getElem?_eq_some_iff.mp a
  by_cases e : k = i
  · subst e
    rw [if_pos rfl] at b
    split at b
    · cases b
      rw [← ei, upd_same]
    · cases b
  · rw [if_neg e] at b
    have ne : m ≠ ms[k] := fun z => by
      rw [← ei] at z
      exact e ((List.getElem_inj hn).mp z).symm
    rw [upd_ne ne]
    exact o.2 i m line a b
theorem LnA.off {H H' : Hp} {ms : List Addr} {T : Lines} (o : LnA H ms T) (h : ∀ m ∈ ms, H' m = H m) : LnA H' ms T :=
  ⟨o.1, fun i m line a b => (h m (List.mem_of_getElem? a)).trans (o.2 i m line a b)⟩
theorem erase_perm : ∀ {l : List Int} {i : Nat} (h : i < l.length), (l[i] :: l.eraseIdx i).Perm l
  | a :: r, 0, _ => List.Perm.refl _
  | a :: r, i + 1, h => by
    have hr : i < r.length := by
      rw [List.length_cons] at h
      omega
    have ih := erase_perm (l := r) (i := i) hr
    show (r[i] :: a :: r.eraseIdx i).Perm (a :: r)
    exact (List.Perm.swap a r[i] _).trans (ih.cons a)
theorem rg_ints (n : Nat) : rgV 0 (n : Int) = ((List.range n).map fun i => ((i : Nat) : Int)).map V.int := by
  unfold rgV
  rw [List.map_map]
  have e : ((n : Int) - 0).toNat = n := by omega
  rw [e]
  refine List.map_congr_left fun i _ => ?_
  show V.int (0 + (i : Int)) = V.int (i : Int)
  rw [Int.zero_add]
section
variable {P : Program} {w : World} {K : PySem.W.Frag} {mg : Str → Option Value} {base : Heap}
def spDrawState (K : PySem.W.Frag) : Sp := fun vs H Q _ => ∃ (p a o : Addr) (ns : List Int) (n c : Nat), vs = [.ref p, .ref o] ∧ DrawAt H p a ∧ (∀ H', ExP p H H' → SqL K H' a (ns.map V.int)) ∧ Ofc H o n c ∧
  ∀ r H' S, ExP p H H' → DrawAt H' p a → StA H' r S → Val n c S → Q (.ref r) H'
abbrev nDrawState : List Str := ["_law_row_here", "_law_office", "_law_lines", "_law_left", "_law_turn", "_law_counter", "_law_line"]
theorem scDrawState : FnScope nDrawState ["_law_row_here", "_law_office"] (defScope sDrawState) := ⟨rfl, rfl, rfl, by decide +kernel, rfl, by decide +kernel, by decide +kernel⟩
theorem ok_drawState {f f1 : Addr} {fd fd1 : FuncData} (D : Df K mg "_law_state" sDrawState f fd) (C1 : Cal P w K mg base 1 "_law_taken" ["_law_row_here", "_law_many"] (spTaken K) f1 fd1) (B : Bl mg) :
    FnOk P w K mg base CX0 2 f fd ["_law_row_here", "_law_office"] (spDrawState K) := by
  refine D.F.ok scDrawState (fun vs H Q E h => ?_) (fun cdv A outer s H vs Q E hr h => ?_)
  · obtain ⟨p, a, o, ns, n, c, rfl, _⟩ := h
    rfl
  · obtain ⟨p, a, o, ns, n, c, rfl, d, hS, ho, q⟩ := h
    refine ⟨_, pss_cons (ps_par (i := 2) (j := 3) rfl scDrawState.nd rfl rfl (by decide) rfl rfl (pa_cons (pe_lc (own := [("_law_counter", 5)]) rfl scDrawState.nd
          (pi_range1 (by rfl) B.rng (pa_cons (pe_ix ix_tup (pv 1) pe_int (fun _ _ => rfl)) pa_nil)) (blkOk_by (N := nDrawState) (sc := defScope sDrawState) (by decide +kernel))
          (fun _ _ _ _ _ => pg_name (i := 5) scDrawState.nd rfl (.inl rfl)) (fun _ _ _ _ _ => pts_nil) (fun _ _ _ _ _ => pe_lst pa_nil))
        (pa_cons (pe_listRg rfl (by rfl) B.lst (prg_1 (by rfl) B.rng (pe_ix ix_tup (pv 1) pe_int (fun _ _ => rfl)))) pa_nil)) (by rfl))
      (pss_cons (ps_for PassesOwn.never rfl (pi_range1 (by rfl) B.rng (pa_cons (pe_ix ix_tup (pv 1) pe_int (fun _ _ => rfl)) pa_nil)) (pg_name (i := 4) scDrawState.nd rfl (.inl rfl))
        (pss_one (ps_expr (pe_bm PySem.F.plainAttrs_list PySem.F.slot_list_append PySem.F.type_list_append mt_append
          (pe_ix ix_list (pv 2) (pe_call C1.ok hr (by rfl) C1.g C1.kp C1.b .nil pass0 (pa_cons (pv 0) (pa_cons (pe_ix ix_tup (pv 1) pe_int (fun _ _ => rfl)) pa_nil))) (fun _ _ => rfl))
          (pa_cons (pe_bm PySem.F.plainAttrs_list PySem.F.slot_list_pop PySem.F.type_list_pop mt_popAt (pv 3)
            (pa_cons (pe_call C1.ok hr (by rfl) C1.g C1.kp C1.b .nil pass0 (pa_cons (pv 0) (pa_cons (pe_callB call_len_seq (by rfl) B.len b_len (pa_cons (pv 3) pa_nil)) pa_nil))) pa_nil)) pa_nil)))))
      (pss_one (ps_ret (pe_callTy call_tuple_of (by rfl) B.tup b_tup (pa_cons (pe_lc (own := [("_law_line", 6)]) rfl scDrawState.nd (pi_list (pv 2)) (blkOk_by (N := nDrawState) (sc := defScope sDrawState) (by decide +kernel))
        (fun _ _ _ _ _ => pg_name (i := 6) scDrawState.nd rfl (.inl rfl)) (fun _ _ _ _ _ => pts_nil) (fun _ _ _ _ _ => pe_callTy (call_tupF (K := K) rfl) (by rfl) B.tup b_tup (pa_cons (pv 6) pa_nil))) pa_nil))))), ?_⟩
    have hn1 := ho.n1
    have hn7 := ho.n7
    have hc1 := ho.c1
    have hc6 := ho.c6
    obtain ⟨ys, hp⟩ := d.lst
    -- the empty lines
    refine ⟨.ref o, rfl, o, _, 1, _, rfl, rfl, tT ho.at_, at1, (c : Int), rfl, by omega, by omega, fun L hL => ?_⟩
    have npL : p ≠ L := ne_of_none hp hL
    refine lc_range (lo := 0) (n := ((c : Int)).toNat) (fun i H' => Ex H H' ∧ ∃ ms : List Addr, H' L = some (.lst (ms.map V.ref)) ∧ ms.length = i ∧ ms.Nodup ∧ ∀ m ∈ ms, H m = none ∧ m ≠ L ∧ H' m = some (.lst []))
      ⟨Ex.new hL, [], upd_same, rfl, List.nodup_nil, fun m hm => by simp at hm⟩ ?_ ?_
    · rintro i H1 hi ⟨e1, ms, hL1, hml, hnd, hms⟩
      refine ⟨rfl, Nat.zero_le _, fun m hm => ?_⟩
      have nLm : L ≠ m := ne_of_none hL1 hm
      have e2 : Ex H1 (upd H1 m (.lst [])) := Ex.new hm
      have hno : m ∉ ms := fun z => by
        rw [(hms m z).2.2] at hm
        cases hm
      refine ⟨_, e2 _ _ hL1, ?_, Ex.mut (e1.trans e2) hL, ms ++ [m], ?_, ?_, nd_snoc hnd hno, fun z hz => ?_⟩
      · rw [List.length_map, hml]
        exact small1000 (by omega)
      · rw [upd_same, List.map_append]
        rfl
      · rw [List.length_append, hml]
        rfl
      · rcases List.mem_append.mp hz with z1 | z1
        · obtain ⟨a1, a2, a3⟩ := hms z z1
          exact ⟨a1, a2, by rw [upd_ne a2]; exact e2 _ _ a3⟩
        · rw [List.mem_singleton] at z1
          subst z1
          exact ⟨Evl.fresh_back e1 hm, fun z => nLm z.symm, by rw [upd_ne (fun z => nLm z.symm), upd_same]⟩
    · rintro H1 ⟨e1, ms, hL1, hml, hnd, hms⟩
      rw [Int.toNat_natCast] at hml
      -- the people left
      refine ⟨.ref o, rfl, o, _, 0, _, rfl, rfl, tT (ho.ex e1).at_, at0, (n : Int), rfl, RgOk.of_le (by omega) (by omega) (by omega) (by omega), fun F hF => ⟨_, _, rfl, ?_⟩⟩
      rw [rg_ints]
      have e2 : Ex H1 (upd H1 F (.lst (((List.range n).map fun i => ((i : Nat) : Int)).map V.int))) := Ex.new hF
      have hF2 : (upd H1 F (.lst (((List.range n).map fun i => ((i : Nat) : Int)).map V.int))) F = some (.lst (((List.range n).map fun i => ((i : Nat) : Int)).map V.int)) := upd_same
      have nLF : L ≠ F := ne_of_none hL1 hF
      have nmF : ∀ m ∈ ms, m ≠ F := fun m hm => ne_of_none (hms m hm).2.2 hF
      have hF0 : H F = none := Evl.fresh_back e1 hF
      generalize upd H1 F (.lst (((List.range n).map fun i => ((i : Nat) : Int)).map V.int)) = H2 at e2 hF2
      have e12 := e1.trans e2
      have npF : p ≠ F := ne_of_none hp hF0
      have npm : ∀ m ∈ ms, p ≠ m := fun m hm => ne_of_none hp (hms m hm).1
      have d2 : DrawAt H2 p a := by
        obtain ⟨i, z, r, h, r1⟩ := d
        exact ⟨i, z, r, e12 _ _ h, r1⟩
      have ln2 : LnA H2 ms (List.replicate c []) := ⟨by rw [hml, List.length_replicate], fun i m line ha hb => by
        have e : line = [] := by
          rw [List.getElem?_replicate] at hb
          split at hb
          · exact (Option.some.inj hb).symm
          · cases hb
        rw [e]
        exact e2 _ _ (hms m (List.mem_of_getElem? ha)).2.2⟩
      have fl0 : (List.replicate c ([] : List Int)).flatten = [] := by
        have : ∀ k : Nat, (List.replicate k ([] : List Int)).flatten = [] := fun k => by
          induction k with
          | zero => rfl
          | succ k ih => rw [List.replicate_succ, List.flatten_cons, ih]; rfl
        exact this c
      have ho2 := ho.ex e12
      -- the turns
      refine ⟨.ref o, rfl, o, _, 0, _, rfl, rfl, tT ho2.at_, at0, (n : Int), rfl, by omega, by omega, for_range (lo := 0) (n := ((n : Int)).toNat)
        (fun t σ H' => ∃ x4 x5 x6, σ = [some (.ref p), some (.ref o), some (.ref L), some (.ref F), x4, x5, x6] ∧ ExP p H H' ∧ DrawAt H' p a ∧ H' L = some (.lst (ms.map V.ref)) ∧
          ∃ (T : Lines) (left : List Int), LnA H' ms T ∧ H' F = some (.lst (left.map V.int)) ∧ (T.flatten ++ left).Perm ((List.range n).map fun i => ((i : Nat) : Int)) ∧ left.length + t = n)
        ⟨_, _, _, rfl, .of e12, d2, e2 _ _ hL1, _, _, ln2, hF2, by rw [fl0]; exact List.Perm.refl _, by rw [List.length_map, List.length_range]; rfl⟩ ?_ ?_⟩
      · rintro t σ H3 ht ⟨x4, x5, x6, rfl, x3, d3, hL3, T, left, ln3, hF3, perm, hll⟩
        rw [Int.toNat_natCast] at ht
        have ho3 := ho.exP x3 hp
        obtain ⟨ys3, hp3⟩ := d3.lst
        -- lines[..]
        refine ⟨.ref L, rfl, .ref p, rfl, .ref o, rfl, o, _, 1, _, rfl, rfl, tT ho3.at_, at1, p, a, ns, (c : Int), rfl, d3, fun H' e => hS H' (x3.trans e), by omega, by omega, fun v H4 v0 v1 o4 d4 => ?_⟩
        have hv : v.toNat < ms.length := by omega
        have hvT : v.toNat < T.length := by rw [← ln3.1]; exact hv
        have hL4 := (o4 L (fun z => npL z.symm)).trans hL3
        have hF4 := (o4 F (fun z => npF z.symm)).trans hF3
        have ln4 : LnA H4 ms T := ln3.off fun m hm => o4 m fun z => npm m hm z.symm
        have hmv : ms[v.toNat]? = some ms[v.toNat] := List.getElem?_eq_getElem hv
        have hTv : T[v.toNat]? = some T[v.toNat] := List.getElem?_eq_getElem hvT
        have hl4 := ln4.2 _ _ _ hmv hTv
        have memv : ms[v.toNat] ∈ ms := List.getElem_mem hv
        refine ⟨L, _, v, .ref ms[v.toNat], rfl, rfl, tL hL4, at_of (j := v.toNat) (by omega) (by rw [List.getElem?_map, hmv]; rfl), .inl ⟨rfl, _, tL hl4⟩, ?_⟩
        -- left.pop(..)
        refine ⟨.ref F, rfl, .inl ⟨rfl, _, tL hF4⟩, .ref p, rfl, .ref F, rfl, F, _, rfl, .inl (tL hF4), p, a, ns, _, rfl, d4, fun H' e => hS H' ((x3.trans (.off o4)).trans e), ?_, ?_, fun u H5 u0 u1 o5 d5 => ?_⟩
        · rw [List.length_map]
          omega
        · rw [List.length_map]
          omega
        rw [List.length_map] at u1
        have hu : u.toNat < left.length := by omega
        have hL5 := (o5 L (fun z => npL z.symm)).trans hL4
        have hF5 := (o5 F (fun z => npF z.symm)).trans hF4
        have ln5 : LnA H5 ms T := ln4.off fun m hm => o5 m fun z => npm m hm z.symm
        have hl5 := ln5.2 _ _ _ hmv hTv
        have nvF : ms[v.toNat] ≠ F := nmF _ memv
        have hlu : (left.map V.int)[u.toNat]? = some (.int left[u.toNat]) := by
          rw [List.getElem?_map, List.getElem?_eq_getElem hu]
          rfl
        have hTl : T.flatten.length + left.length = n := by
          have z := perm.length_eq
          rw [List.length_append, List.length_map, List.length_range] at z
          exact z
        refine ⟨F, _, u, u.toNat, .int left[u.toNat], rfl, rfl, hF5, by omega, by omega, ?_, hlu, ?_⟩
        · exact (ixN_seq (by unfold ixN; rw [if_pos u0, if_pos (by rw [List.length_map]; exact u1)])).1
        refine ⟨ms[v.toNat], _, .int left[u.toNat], rfl, rfl, by rw [upd_ne nvF]; exact hl5, ?_, ?_⟩
        · rw [List.length_map]
          have z := len_line (List.getElem_mem hvT)
          exact small1000 (by omega)
        rw [erase_mapI]
        have ln6 : LnA (upd H5 F (.lst ((left.eraseIdx u.toNat).map V.int))) ms T := ln5.off fun m hm => upd_ne (nmF m hm)
        have ln7 := LnA.upd (x := T[v.toNat] ++ [left[u.toNat]]) hv hnd ln6
        rw [List.map_append] at ln7
        have nLv : L ≠ ms[v.toNat] := fun z => (hms _ memv).2.1 z.symm
        refine ⟨_, _, _, rfl, (((x3.trans (.off o4)).trans (.off o5)).mut hF0).mut (hms _ memv).1, ?_, ?_, _, left.eraseIdx u.toNat, ln7, ?_, ?_, ?_⟩
        · refine d5.ex ?_
          rw [upd_ne (npm _ memv), upd_ne npF]
        · rw [upd_ne nLv, upd_ne nLF]
          exact hL5
        · rw [upd_ne (fun z => nvF z.symm), upd_same]
        · have z1 : ((T.set v.toNat (T[v.toNat] ++ [left[u.toNat]])).flatten).Perm (T.flatten ++ [left[u.toNat]]) := by
            have z := set_flat (S := T) (i := v.toNat) (p := left[u.toNat]) hvT
            rw [List.getD_eq_getElem?_getD, hTv, Option.getD_some] at z
            exact z
          have z2 : ([left[u.toNat]] ++ left.eraseIdx u.toNat).Perm left := erase_perm hu
          refine ((z1.append_right _).trans ?_).trans perm
          rw [List.append_assoc]
          exact z2.append_left _
        · rw [List.length_eraseIdx, if_pos hu]
          omega
      · rintro σ H3 ⟨x4, x5, x6, rfl, x3, d3, hL3, T, left, ln3, hF3, perm, hll⟩
        rw [Int.toNat_natCast] at hll
        have e0 : left = [] := List.length_eq_zero_iff.mp (by omega)
        subst e0
        rw [List.append_nil] at perm
        have hTc : T.length = c := by rw [← ln3.1, hml]
        have vT : Val n c T := ⟨hTc, perm⟩
        obtain ⟨ys3, hp3⟩ := d3.lst
        -- tuple([tuple(line) for line in lines])
        refine ⟨.ref L, rfl, L, rfl, ⟨_, tL hL3⟩, fun M hM => ?_⟩
        have hM0 : H M = none := x3.free hp3 hM
        refine lc_list (K := K) (a := L) (xs := ms.map V.ref) (fun i H' => Ex H3 H' ∧ ∃ ls : List Addr, H' M = some (.lst (ls.map V.ref)) ∧ LsA H' ls (T.take i))
          ⟨Ex.new hM, [], upd_same, LsA.nil⟩ (fun i H' _ ⟨e, _⟩ => tL (e _ _ hL3)) ?_ ?_
        · rintro i x H4 hx ⟨e4, ls, hM4, la⟩
          obtain ⟨m, hm, rfl⟩ := ref_at hx
          have hi : i < T.length := by
            rw [← ln3.1]
            exact (List.getElem?_eq_some_iff.mp hm).1
          have hTi : T[i]? = some T[i] := List.getElem?_eq_getElem hi
          have hl := e4 _ _ (ln3.2 i m _ hm hTi)
          refine ⟨rfl, ?_⟩
          refine ⟨.ref m, rfl, m, _, rfl, tL hl, fun t ob ht hob => ?_⟩
          have e5 : Ex H4 (upd H4 t (.frz ob (.tup (T[i].map V.int)))) := Ex.new ht
          refine ⟨_, e5 _ _ hM4, ?_, Ex.mut (e4.trans e5) hM, ls ++ [t], ?_, ?_⟩
          · rw [List.length_map, la.1, List.length_take]
            exact small1000 (by omega)
          · rw [upd_same, List.map_append]
            rfl
          · rw [List.take_add_one, hTi]
            exact LsA.mut (LsA.snoc (la.ex e5) (TuO.new hob)) (e5 _ _ hM4)
        · rintro H4 ⟨e4, ls, hM4, la⟩
          rw [List.length_map, ln3.1, List.take_length] at la
          refine ⟨M, _, rfl, .inl ⟨tL hM4, fun r hr' => ?_⟩⟩
          have e5 : Ex H4 (upd H4 r (.tup (ls.map V.ref))) := Ex.new hr'
          refine q r _ T (x3.trans (.of (e4.trans e5))) ?_ (StA.of upd_same (la.ex e5)) vT
          obtain ⟨i, z, r1, h, r2⟩ := d3
          exact ⟨i, z, r1, e5 _ _ (e4 _ _ h), r2⟩
end
end CkD


set_option linter.all false
set_option maxRecDepth 100000
set_option maxHeartbeats 4000000
/-! What the law's own steps come to. -/
namespace CkD
open PySem PySem.Spec PyProof.Rows L2 CkR CkM
open Evl (Ex)
theorem other_ok {n : Nat} {p t : Int} (hp : Per n p) (t0 : 0 ≤ t) (t1 : t < (n : Int) - 1) : Per n ((p + 1 + t) % (n : Int)) ∧ p ≠ (p + 1 + t) % (n : Int) := by
  obtain ⟨h0, h1⟩ := hp
  by_cases h : p + 1 + t < (n : Int)
  · rw [Int.emod_eq_of_lt (by omega) h]
    exact ⟨⟨by omega, h⟩, by omega⟩
  · have e : (p + 1 + t) % (n : Int) = p + 1 + t - (n : Int) := by
      have z : (p + 1 + t - (n : Int) + (n : Int)) % (n : Int) = (p + 1 + t - (n : Int)) % (n : Int) := Int.add_emod_right ..
      rw [Int.sub_add_cancel] at z
      rw [z]
      exact Int.emod_eq_of_lt (by omega) (by omega)
    rw [e]
    exact ⟨⟨by omega, by omega⟩, by omega⟩
theorem gap_zero (a b c : Int) : (a % c - b % c - (a - b) % c) % c = 0 := by
  have e : a % c - b % c - (a - b) % c = c * (b / c - a / c + (a - b) / c) := by
    rw [Int.emod_def a c, Int.emod_def b c, Int.emod_def (a - b) c, Int.mul_add, Int.mul_sub]
    omega
  rw [e]
  exact Int.mul_emod_right ..
theorem due_symm {p r : Int} {h : List Int} (n : p ≠ r) : dueV r p h = dueV p r h := by
  unfold dueV
  by_cases h1 : last p h = -1 ∧ last r h = -1
  · rw [if_pos h1, if_pos ⟨h1.2, h1.1⟩]
  · rw [if_neg h1, if_neg (fun z => h1 ⟨z.2, z.1⟩)]
    have ne : last p h ≠ last r h := fun e => by
      have z := last_inj n e
      exact h1 ⟨z, e ▸ z⟩
    by_cases h2 : last p h < last r h
    · rw [if_pos h2, if_neg (by omega)]
    · rw [if_neg h2, if_pos (by omega)]
theorem scal_due (p r : Int) (h : List Int) : scal (dueV p r h) (dueV p r h) = true := by
  unfold dueV
  split
  · rfl
  · split <;> rfl
theorem scal_due1 (p r x : Int) (h : List Int) : scal (dueV p r h) (.int x) = true := by
  unfold dueV
  split
  · rfl
  · split <;> rfl
theorem in_ord {p : Int} {h : List Int} : (ordR h).contains p = !decide (last p h = -1) := by
  rw [Bool.eq_iff_iff, Bool.not_eq_true', decide_eq_false_iff_not, List.contains_iff_mem, mem_ordR, last_none, Classical.not_not]
/-- what numbers.get gives -/
def numK (c : Nat) (h : List Int) : List (Key × V) := (ordR h).map fun y => ((Sum.inl y : Key), V.int (((h.count y : Nat) : Int) % (c : Int)))
theorem num_get (c : Nat) (h : List Int) (p : Int) : (valV (numK c h) (Sum.inl p : Key)).getD (.int 0) = .int (((h.count p : Nat) : Int) % (c : Int)) := by
  unfold numK
  by_cases m : p ∈ ordR h
  · rw [val_yes m]
    rfl
  · rw [val_no m, List.count_eq_zero_of_not_mem fun z => m (mem_ordR.mpr z)]
    show V.int 0 = V.int (((0 : Nat) : Int) % (c : Int))
    rw [Int.natCast_zero, Int.zero_emod]
theorem pls_at {c : Nat} {h : List Int} {i : Nat} (hi : i < (ordR h).length) : (pls c h)[i]? = some ((ordR h)[i], ((h.count (ordR h)[i] : Nat) : Int) % (c : Int)) := by
  unfold pls
  rw [List.getElem?_map, List.getElem?_eq_getElem hi]
  rfl
theorem bef_ne {n c : Nat} {S : Lines} (v : Val n c S) {a b : Int} (h : bef S a b) : a ≠ b := by
  obtain ⟨l, m, s⟩ := h
  obtain ⟨_, _, i⟩ := sub_idx (nd_line v.nd l m) s
  intro e
  rw [e] at i
  omega
section
variable {X : Cx} {K : PySem.W.Frag}
/-- xs.index(k), xs a list of ints, k there -/
def rLIdx (K : PySem.W.Frag) : V → List V → Hp → VK → Prop := fun x xs H Q => ∃ (p : Addr) (ns : List Int) (k : Int), x = .ref p ∧ xs = [.int k] ∧ SqL K H p (ns.map V.int) ∧ k ∈ ns ∧ Q (.int (ns.idxOf k : Nat)) H
theorem mt_lidx : MtR X "list.index" (rLIdx X.K) := by
  intro pins s σ H x xs v us Q I rx rxs h
  obtain ⟨p, ns, k, rfl, rfl, hs, hk, q⟩ := h
  cases rx
  obtain ⟨u, rfl, ru⟩ := rxs.one
  obtain ⟨t, rfl⟩ := ru
  obtain ⟨its, rv, pl, hz⟩ := I.list hs
  have hl := rv.length
  rw [List.length_map] at hl hz
  exact PySem.SeqAt.list_index_ints pl.isList (ints_of_vals rv) hz hk ⟨.int (ns.idxOf k : Nat), H, I.tok _, ⟨_, rfl⟩, q⟩
end
end CkD


set_option linter.all false
set_option maxRecDepth 100000
set_option maxHeartbeats 8000000
/-! The law. -/
namespace CkD
open PySem PySem.Spec PyProof.Rows L2 CkR CkM
open Evl (Ex)
theorem StA.exP {p b : Addr} {H H' : Hp} {S : Lines} {ys : List V} (h : StA H b S) (e : ExP p H H') (hp : H p = some (.lst ys)) : StA H' b S := by
  obtain ⟨ls, h1, h2, h3⟩ := h
  refine ⟨ls, e.at_ hp h1 (fun zs z => by cases z), h2, fun i l line x y => ?_⟩
  obtain ⟨o, g1, g2⟩ := h3 i l line x y
  exact ⟨o, e.at_ hp g1 (fun zs z => by cases z), g2⟩
theorem Rw.exP {p r : Addr} {H H' : Hp} {n : Nat} {cs : List Int} {ys : List V} (h : Rw H r n cs) (e : ExP p H H') (hp : H p = some (.lst ys)) : Rw H' r n cs := by
  obtain ⟨⟨o, g1, g2⟩, h2, h3⟩ := h
  exact ⟨⟨o, e.at_ hp g1 (fun zs z => by cases z), g2⟩, h2, h3⟩
theorem nodup_take {l : List Int} (h : l.Nodup) {i : Nat} (hi : i < l.length) : l[i] ∉ l.take i := by
  intro m
  obtain ⟨j, hj, e⟩ := List.getElem_of_mem m
  rw [List.length_take] at hj
  rw [List.getElem_take] at e
  exact (List.pairwise_iff_getElem.mp h) j i (by omega) hi (by omega) e
section
variable {P : Program} {w : World} {K : PySem.W.Frag} {mg : Str → Option Value} {base : Heap}
def spLaw (K : PySem.W.Frag) : Sp := fun vs H Q _ => ∃ (a : Addr) (ns : List Int), vs = [.ref a] ∧ SqL K H a (ns.map V.int) ∧ ns.length ≤ 63 ∧ ∀ H', Q (.bl true) H'
abbrev nLaw : List Str := ["_law_script", "_law_row_here", "_law_office", "_law_state_here", "_law_calls", "_law_one", "_law_other", "_law_plan", "_law_lasts", "_law_person", "_law_number", "_law_order", "_law_numbers", "_law_due", "_law_end", "_law_pair"]
theorem scLaw : FnScope nLaw ["_law_script"] (defScope sLaw) := ⟨rfl, rfl, rfl, by decide +kernel, rfl, by decide +kernel, by decide +kernel⟩
/-- the defs that the law calls -/
structure Calls9 (P : Program) (w : World) (K : PySem.W.Frag) (mg : Str → Option Value) (base : Heap) (f1 f2 f3 f4 f5 f6 f7 f8 f9 f0 : Addr) (d1 d2 d3 d4 d5 d6 d7 d8 d9 d0 : FuncData) : Prop where
  taken : Cal P w K mg base 1 "_law_taken" ["_law_row_here", "_law_many"] (spTaken K) f1 d1
  state : Cal P w K mg base 2 "_law_state" ["_law_row_here", "_law_office"] (spDrawState K) f2 d2
  row : Cal P w K mg base 2 "_law_row" ["_law_row_here", "_law_office", "_law_many"] (spDrawRow K) f3 d3
  plan : Cal P w K mg base 4 "plan_of" ["office", "calls"] spPlanOf f4 d4
  lasts : Cal P w K mg base 4 "last_calls" ["office", "calls"] spLastCalls f5 d5
  gap : Cal P w K mg base 5 "moved_gap" ["office", "calls", "one", "other"] spMovedGap f6 d6
  ahead : Cal P w K mg base 5 "ahead_by" ["office", "calls", "one", "other"] spAheadBy f7 d7
  after : Cal P w K mg base 5 "after" ["office", "state", "calls"] spAfter f8 d8
  isa : Cal P w K mg base 5 "is_ahead" ["office", "state", "one", "other"] spIsAhead f9 d9
  over : Cal P w K mg base 5 "overtakings" ["office", "state", "calls"] spOvertakings f0 d0
theorem ok_law {f f1 f2 f3 f4 f5 f6 f7 f8 f9 f0 : Addr} {fd d1 d2 d3 d4 d5 d6 d7 d8 d9 d0 : FuncData} (D : Df K mg "law" sLaw f fd) (C : Calls9 P w K mg base f1 f2 f3 f4 f5 f6 f7 f8 f9 f0 d1 d2 d3 d4 d5 d6 d7 d8 d9 d0) (B : Bl mg) :
    FnOk P w K mg base CX0 6 f fd ["_law_script"] (spLaw K) := by
  refine D.F.ok scLaw (fun vs H Q E h => ?_) (fun cdv A outer s H vs Q E hr h => ?_)
  · obtain ⟨a, ns, rfl, _⟩ := h
    rfl
  · obtain ⟨a, ns, rfl, hS, hlen, q⟩ := h
    have hr1 : Room 1 _ := hr.mono (by decide)
    have hr2 : Room 2 _ := hr.mono (by decide)
    have hr4 : Room 4 _ := hr.mono (by decide)
    have hu := hu_of hr
    have T := C.taken
    refine ⟨_, pss_cons (ps_set (i := 1) scLaw.nd rfl (.inl rfl) (pe_lst (pa_cons (pv 0) (pa_cons pe_int (pa_cons pe_int (pa_cons pe_int pa_nil))))))
      (pss_cons (ps_set (i := 2) scLaw.nd rfl (.inr rfl) (pe_tup (pa_cons (pe_op op_add pe_int (pe_call T.ok hr1 (by rfl) T.g T.kp T.b .nil pass0 (pa_cons (pv 1) (pa_cons pe_int pa_nil)))) (pa_cons (pe_op op_add pe_int (pe_call T.ok hr1 (by rfl) T.g T.kp T.b .nil pass0 (pa_cons (pv 1) (pa_cons pe_int pa_nil)))) pa_nil))))
      (pss_cons (ps_asg (pe_tup (pa_cons (pe_call C.state.ok hr2 (by rfl) C.state.g C.state.kp C.state.b .nil pass0 (pa_cons (pv 1) (pa_cons (pv 2) pa_nil))) (pa_cons (pe_call C.row.ok hr2 (by rfl) C.row.g C.row.kp C.row.b .nil pass0 (pa_cons (pv 1) (pa_cons (pv 2) (pa_cons pe_int pa_nil)))) pa_nil)))
        (pg_tup rfl (pgs_cons (pg_name (i := 3) scLaw.nd rfl (.inl rfl)) (pgs_cons (pg_name (i := 4) scLaw.nd rfl (.inr rfl)) pgs_nil))))
      (pss_cons (ps_set (i := 5) scLaw.nd rfl (.inl rfl) (pe_call T.ok hr1 (by rfl) T.g T.kp T.b .nil pass0 (pa_cons (pv 1) (pa_cons (pe_ix ix_tup (pv 2) pe_int (fun _ _ => rfl)) pa_nil))))
      (pss_cons (ps_set (i := 6) scLaw.nd rfl (.inl rfl) (pe_op op_mod (pe_callTy call_int1 (by rfl) B.int b_int (pa_cons (pe_op op_add (pe_op op_add (pv 5) pe_int) (pe_call T.ok hr1 (by rfl) T.g T.kp T.b .nil pass0 (pa_cons (pv 1) (pa_cons (pe_op op_sub (pe_ix ix_tup (pv 2) pe_int (fun _ _ => rfl)) pe_int) pa_nil)))) pa_nil)) (pe_ix ix_tup (pv 2) pe_int (fun _ _ => rfl))))
      (pss_cons (ps_par (i := 7) (j := 8) rfl scLaw.nd rfl rfl (by decide) rfl rfl (pa_cons (pe_call C.plan.ok hr4 (by rfl) C.plan.g C.plan.kp C.plan.b .nil pass0 (pa_cons (pv 2) (pa_cons (pv 4) pa_nil))) (pa_cons (pe_call C.lasts.ok hr4 (by rfl) C.lasts.g C.lasts.kp C.lasts.b .nil pass0 (pa_cons (pv 2) (pa_cons (pv 4) pa_nil))) pa_nil)) (by rfl))
      (pss_cons (ps_par (i := 11) (j := 12) rfl scLaw.nd rfl rfl (by decide) rfl rfl (pa_cons (pe_lc (own := [("_law_person", 9), ("_law_number", 10)]) rfl scLaw.nd (pi_tup (pv 7)) (blkOk_by (N := nLaw) (sc := defScope sLaw) (by decide +kernel))
          (fun _ _ _ _ _ => pg_tupK (K := K) (n := 2) rfl rfl (pgs_cons (pg_name (i := 9) scLaw.nd rfl (.inl rfl)) (pgs_cons (pg_name (i := 10) scLaw.nd rfl (.inl rfl)) pgs_nil))) (fun _ _ _ _ _ => pts_nil) (fun _ _ _ _ _ => pv 9)) (pa_cons pe_dnewK pa_nil)) (by rfl))
      (pss_cons (ps_for PassesOwn.never rfl (pi_tup (pv 7)) (pg_tup rfl (pgs_cons (pg_name (i := 9) scLaw.nd rfl (.inl rfl)) (pgs_cons (pg_name (i := 10) scLaw.nd rfl (.inl rfl)) pgs_nil))) (pss_one (ps_dput hu (pv 12) (pv 9) (pv 10) rfl)))
      (pss_cons (ps_if (pt_cmpR op_ne (pe_op op_mod (pe_callTy call_int1 (by rfl) B.int b_int (pa_cons (pe_op op_sub (pe_op op_sub (pe_dget2 hu (pv 12) (pv 5) pe_int ⟨rfl, rfl, rfl, rfl⟩) (pe_dget2 hu (pv 12) (pv 6) pe_int ⟨rfl, rfl, rfl, rfl⟩))
          (pe_call C.gap.ok hr (by rfl) C.gap.g C.gap.kp C.gap.b .nil pass0 (pa_cons (pv 2) (pa_cons (pv 4) (pa_cons (pv 5) (pa_cons (pv 6) pa_nil)))))) pa_nil)) (pe_ix ix_tup (pv 2) pe_int (fun _ _ => rfl))) pe_int (nomark _)) (pss_one (ps_ret pe_bl)) pss_nil)
      (Evl.pss_cut (ps_if (PW.pt (pw_and (pt_cmpR op_notIn_seq (pv 5) (pv 11) rfl) (pw_and1 (pt_cmpR op_notIn_seq (pv 6) (pv 11) rfl)))) (pss_one (ps_set (i := 13) scLaw.nd rfl (.inl rfl) pe_non))
        (pss_one (ps_if (PW.pt (pw_and (pt_cmpR op_in_seq (pv 5) (pv 11) rfl) (pw_and1 (pt_cmpR op_in_seq (pv 6) (pv 11) rfl))))
          (pss_one (ps_set (i := 13) scLaw.nd rfl (.inl rfl) (pe_ifExp (pt_cmpR op_lt (pe_bm PySem.F.plainAttrs_list PySem.F.slot_list_index PySem.F.type_list_index mt_lidx (pv 11) (pa_cons (pv 5) pa_nil)) (pe_bm PySem.F.plainAttrs_list PySem.F.slot_list_index PySem.F.type_list_index mt_lidx (pv 11) (pa_cons (pv 6) pa_nil)) (nomark _)) (pv 5) (pv 6))))
          (pss_one (ps_set (i := 13) scLaw.nd rfl (.inl rfl) (pe_ifExp (pt_cmpR op_in_seq (pv 5) (pv 11) rfl) (pv 6) (pv 5)))))))
      (pss_cons (ps_if (PW.pt (pw_or (pt_cmpR op_ne (pe_call C.ahead.ok hr (by rfl) C.ahead.g C.ahead.kp C.ahead.b .nil pass0 (pa_cons (pv 2) (pa_cons (pv 4) (pa_cons (pv 5) (pa_cons (pv 6) pa_nil))))) (pv 13) (nomark _))
        (pw_or1 (pt_cmpR op_ne (pe_call C.ahead.ok hr (by rfl) C.ahead.g C.ahead.kp C.ahead.b .nil pass0 (pa_cons (pv 2) (pa_cons (pv 4) (pa_cons (pv 6) (pa_cons (pv 5) pa_nil))))) (pv 13) (nomark _))))) (pss_one (ps_ret pe_bl)) pss_nil)
      (Evl.pss_cut (ps_if (PW.pt (pw_and (pt_cmpR op_eq (pv 13) (pv 5) (nomark _)) (pw_and (pt_cmpR op_notN (pe_ix ix_tup (pv 8) (pv 5) (fun _ _ => rfl)) pe_non (nomark _)) (pw_and (pt_cmpR op_notN (pe_ix ix_tup (pv 8) (pv 6) (fun _ _ => rfl)) pe_non (nomark _))
        (pw_and1 (pt_cmpR op_gt (pe_ix ix_tup (pv 8) (pv 5) (fun _ _ => rfl)) (pe_ix ix_tup (pv 8) (pv 6) (fun _ _ => rfl)) (nomark _))))))) (pss_one (ps_ret pe_bl)) pss_nil)
      (pss_cons (ps_set (i := 14) scLaw.nd rfl (.inr rfl) (pe_call C.after.ok hr (by rfl) C.after.g C.after.kp C.after.b .nil pass0 (pa_cons (pv 2) (pa_cons (pv 3) (pa_cons (pv 4) pa_nil)))))
      (Evl.pss_cut (ps_if (PW.pt (pw_and (pt_cmpR op_notN (pv 13) pe_non (nomark _)) (pw_and1 (pt_val (pe_call C.isa.ok hr (by rfl) C.isa.g C.isa.kp C.isa.b .nil pass0 (pa_cons (pv 2) (pa_cons (pv 14) (pa_cons (pe_ifExp (pt_cmpR op_eq (pv 13) (pv 5) (nomark _)) (pv 6) (pv 5)) (pa_cons (pv 13) pa_nil)))))))))
        (pss_one (ps_ret pe_bl)) pss_nil)
      (pss_one (ps_ret (pe_cmpR (op_eqD hr.units) (pe_lc (own := [("_law_pair", 15)]) rfl scLaw.nd (pi_tup (pe_call C.over.ok hr (by rfl) C.over.g C.over.kp C.over.b .nil pass0 (pa_cons (pv 2) (pa_cons (pv 3) (pa_cons (pv 4) pa_nil))))) (blkOk_by (N := nLaw) (sc := defScope sLaw) (by decide +kernel))
        (fun _ _ _ _ _ => pg_name (i := 15) scLaw.nd rfl (.inl rfl))
        (fun _ _ _ _ _ => pts_one (PW.pt (pw_or (pt_cmpR (op_notInK (K := K) rfl) (pe_ix (ix_tupK (K := K) rfl) (pv 15) pe_int (fun _ _ => rfl)) (pv 4) rfl)
          (pw_or1 (pt_not (pt_val (pe_call C.isa.ok hr (by rfl) C.isa.g C.isa.kp C.isa.b .nil pass0 (pa_cons (pv 2) (pa_cons (pv 14) (pa_cons (pe_ix (ix_tupK (K := K) rfl) (pv 15) pe_int (fun _ _ => rfl)) (pa_cons (pe_ix (ix_tupK (K := K) rfl) (pv 15) pe_int (fun _ _ => rfl)) pa_nil)))))))))))
        (fun _ _ _ _ _ => pv 15)) (pe_lst pa_nil) (nomark _))))))))))))))))), ?_⟩
    have scr : ∀ (p : Addr), H p = none → ∀ Hc, Ex H Hc → ∀ H', ExP p Hc H' → SqL K H' a (ns.map V.int) := fun p hp Hc e H' x => Evl.ex_l (x.ex e hp) hS
    -- the draws' row
    refine ⟨.ref a, rfl, (by show 4 ≤ sizeLine; decide), fun p hp => ?_⟩
    have e1 : Ex H (upd H p (.lst [.ref a, .int 0, .int 7070, .int 0])) := Ex.new hp
    have d1 : DrawAt (upd H p (.lst [.ref a, .int 0, .int 7070, .int 0])) p a := ⟨0, 7070, 0, upd_same, by decide, by decide, by decide⟩
    generalize upd H p (.lst [.ref a, .int 0, .int 7070, .int 0]) = H1 at e1 d1
    -- the office
    refine ⟨.ref p, rfl, p, a, ns, 5, rfl, d1, scr p hp H1 e1, by decide, by decide, fun v1 H2 v10 v11 o2 d2 => ?_⟩
    have e2 := o2.ex e1 hp
    refine ⟨2, v1, rfl, rfl, .ref p, rfl, p, a, ns, 5, rfl, d2, scr p hp H2 e2, by decide, by decide, fun v2 H3 v20 v21 o3 d3 => ?_⟩
    have e3 := o3.ex e2 hp
    obtain ⟨m1, rfl⟩ : ∃ m : Nat, v1 = (m : Int) := ⟨v1.toNat, by omega⟩
    obtain ⟨m2, rfl⟩ : ∃ m : Nat, v2 = (m : Int) := ⟨v2.toNat, by omega⟩
    refine ⟨1, _, rfl, rfl, (by show 2 ≤ sizeLine; decide), fun o ho => ?_⟩
    dsimp only
    have eo : ((upd H3 o (.tup [.int (2 + (m1 : Int)), .int (1 + (m2 : Int))]))) o = some (.tup [.int ((m1 + 2 : Nat) : Int), .int ((m2 + 1 : Nat) : Int)]) := by
      rw [upd_same, show (2 : Int) + (m1 : Int) = ((m1 + 2 : Nat) : Int) by omega, show (1 : Int) + (m2 : Int) = ((m2 + 1 : Nat) : Int) by omega]
    have e34 : Ex H3 (upd H3 o (.tup [.int (2 + (m1 : Int)), .int (1 + (m2 : Int))])) := Ex.new ho
    obtain ⟨ys3, hp3⟩ := d3.lst
    have d4 : DrawAt (upd H3 o (.tup [.int (2 + (m1 : Int)), .int (1 + (m2 : Int))])) p a := d3.ex (upd_ne (ne_of_none hp3 ho))
    generalize upd H3 o (.tup [.int (2 + (m1 : Int)), .int (1 + (m2 : Int))]) = H4 at eo e34 d4
    have e4 := e3.trans e34
    have hO4 : Ofc H4 o (m1 + 2) (m2 + 1) := ⟨eo, by omega, by omega, by omega, by omega⟩
    have hn2 : 2 ≤ m1 + 2 := by omega
    generalize m1 + 2 = n at hO4 hn2
    generalize m2 + 1 = c at hO4
    clear eo e34 d1 d2 d3 hp3 ho
    obtain ⟨ys4, hp4⟩ := d4.lst
    -- the state, the row
    refine ⟨.ref p, rfl, .ref o, rfl, p, a, o, ns, n, c, rfl, d4, scr p hp H4 e4, hO4, fun b H5 S x5 d5 st5 v => ?_⟩
    have e5 := x5.ex e4 hp
    have hO5 := hO4.exP x5 hp4
    obtain ⟨ys5, hp5⟩ := d5.lst
    refine ⟨.ref p, rfl, .ref o, rfl, p, a, o, ns, n, c, 14, rfl, d5, scr p hp H5 e5, hO5, by decide, fun r H6 cs x6 d6 rw6 => ?_⟩
    have e6 := x6.ex e5 hp
    have hO6 := hO5.exP x6 hp5
    have st6 := st5.exP x6 hp5
    obtain ⟨ys6, hp6⟩ := d6.lst
    refine ⟨(by show 2 ≤ sizeLine; decide), fun t ht => ?_⟩
    have e67 : Ex H6 (upd H6 t (.tup [.ref b, .ref r])) := Ex.new ht
    have d7 : DrawAt (upd H6 t (.tup [.ref b, .ref r])) p a := d6.ex (upd_ne (ne_of_none hp6 ht))
    have ht7 : (upd H6 t (.tup [.ref b, .ref r])) t = some (.tup [.ref b, .ref r]) := upd_same
    generalize upd H6 t (.tup [.ref b, .ref r]) = H7 at e67 d7 ht7
    have e7 := e6.trans e67
    have hO7 := hO6.ex e67
    have st7 := st6.ex e67
    have rw7 := rw6.ex e67
    refine ⟨t, _, rfl, tT ht7, rfl, _, _, rfl, _, _, rfl, rfl, ?_⟩
    clear st5 st6 rw6 hO4 hO5 hO6 d4 d5 d6 e67 ht7
    obtain ⟨ys7, hp7⟩ := d7.lst
    have hn7 := hO7.n7
    have hc1 := hO7.c1
    -- one, other
    refine ⟨.ref p, rfl, .ref o, rfl, o, _, 0, _, rfl, rfl, tT hO7.at_, at0, p, a, ns, (n : Int), rfl, d7, scr p hp H7 e7, by omega, by omega, fun one H8 one0 one1 o8 d8 => ?_⟩
    have e8 := o8.ex e7 hp
    have x8 : ExP p H7 H8 := .off o8
    have hO8 := hO7.exP x8 hp7
    have st8 := st7.exP x8 hp7
    have rw8 := rw7.exP x8 hp7
    obtain ⟨ys8, hp8⟩ := d8.lst
    refine ⟨.int one, rfl, one, 1, rfl, rfl, .ref p, rfl, .ref o, rfl, o, _, 0, _, rfl, rfl, tT hO8.at_, at0, (n : Int), 1, rfl, rfl, p, a, ns, (n : Int) - 1, rfl, d8, scr p hp H8 e8, by omega, by omega, fun u H9 u0 u1 o9 d9 => ?_⟩
    have x9 : ExP p H8 H9 := .off o9
    have hO := hO8.exP x9 hp8
    have st := st8.exP x9 hp8
    have rw_ := rw8.exP x9 hp8
    refine ⟨one + 1, u, rfl, rfl, .inl ⟨_, rfl, .ref o, rfl, o, _, 0, _, rfl, rfl, tT hO.at_, at0, _, (n : Int), rfl, rfl, (by show (0 : Int) < (n : Int); omega), ?_⟩⟩
    dsimp only
    have p1 : Per n one := ⟨one0, one1⟩
    obtain ⟨p2, hne⟩ := other_ok p1 u0 u1
    generalize (one + 1 + u) % (n : Int) = ot at p2 hne
    clear hO7 hO8 st7 st8 rw7 rw8 d7 d8 d9 x8 x9 o8 o9 x5 x6 o2 o3 hp4 hp5 hp6 hp7 hp8 e1 e2 e3 e4 e5 e6 e7 e8 ht one0 one1 u0 u1 scr hp hS
    -- plan, lasts
    refine ⟨.ref o, rfl, .ref r, rfl, o, r, n, c, cs, rfl, hO, rw_, fun pl H10 ms e10 hpl pla => ?_⟩
    refine ⟨.ref o, rfl, .ref r, rfl, o, r, n, c, cs, rfl, hO.ex e10, rw_.ex e10, fun la H11 e11 hla => ⟨_, _, rfl, ?_⟩⟩
    have e911 := e10.trans e11
    have hO11 := hO.ex e911
    have st11 := st.ex e911
    have rw11 := rw_.ex e911
    have hpl11 := e11 _ _ hpl
    have pla11 := pla.ex e11
    have hcnt : ∀ x : Int, cs.count x = cs.reverse.count x := fun x => List.count_reverse.symm
    have hmem : ∀ x : Int, x ∈ cs ↔ x ∈ cs.reverse := fun x => List.mem_reverse.symm
    have hol := ordR_len cs.reverse
    rw [List.length_reverse] at hol
    have hr60 := rw_.len
    clear hO st rw_ hpl pla e10 e11 e911
    generalize hh : cs.reverse = h at *
    have pll : ms.length = (ordR h).length := by
      rw [pla11.1]
      unfold pls
      rw [List.length_map]
    -- numbers in order
    refine ⟨.ref pl, rfl, pl, rfl, ⟨_, tT hpl11⟩, fun L hL => ?_⟩
    refine lc_tup (K := K) (a := pl) (xs := ms.map V.ref) (fun i H' => Ex H11 H' ∧ H' L = some (.lst (((ordR h).take i).map V.int)))
      ⟨Ex.new hL, upd_same⟩ (fun i H' _ ⟨e, _⟩ => tT (e _ _ hpl11)) ?_ ?_
    · rintro i x H12 hx ⟨e12, hm12⟩
      obtain ⟨m, hm, rfl⟩ := ref_at hx
      have hi : i < (ordR h).length := by
        rw [← pll]
        exact (List.getElem?_eq_some_iff.mp hm).1
      have hmm := e12 _ _ (pla11.2 i m _ hm (pls_at hi))
      refine ⟨m, _, rfl, tT hmm, rfl, _, _, rfl, _, _, rfl, rfl, rfl, ?_⟩
      refine ⟨_, rfl, _, hm12, ?_, Ex.mut e12 hL, ?_⟩
      · rw [List.length_map, List.length_take]
        exact small1000 (by omega)
      · rw [upd_same, List.take_add_one, List.getElem?_eq_getElem hi, List.map_append]
        rfl
    rintro H12 ⟨e12, hm12⟩
    rw [List.length_map, pll, List.take_length] at hm12
    refine fun nu hnu => ⟨_, _, rfl, ?_⟩
    have e13 : Ex H12 (upd H12 nu (.dK [])) := Ex.new hnu
    have hL13 := hm12
    have hpl13 := e12 _ _ hpl11
    have hO13 := hO11.ex e12
    have st13 := st11.ex e12
    have rw13 := rw11.ex e12
    have pla13 := pla11.ex e12
    have hla13 := e12 _ _ hla
    clear hpl11 hO11 st11 rw11 pla11 hla hm12 e12 hL
    -- the numbers by person
    refine ⟨.ref pl, rfl, pl, rfl, ⟨_, tT (e13 _ _ hpl13)⟩, for_tup (K := K) (a := pl) (xs := ms.map V.ref) (fun i σ H' => ∃ x9 x10, σ = [some (.ref a), some (.ref p), some (.ref o), some (.ref b), some (.ref r), some (.int one), some (.int ot), some (.ref pl), some (.ref la), x9, x10, some (.ref L), some (.ref nu), none, none, none] ∧ Ex H12 H' ∧ H' nu = some (.dK (((ordR h).take i).map fun y => ((Sum.inl y : Key), V.int (((h.count y : Nat) : Int) % (c : Int))))))
      ⟨_, _, rfl, e13, upd_same⟩ (fun i σ H' _ ⟨_, _, _, e, _⟩ => tT (e _ _ hpl13)) ?_ ?_⟩
    · rintro i x σ H14 hx ⟨x9, x10, rfl, e14, hnu14⟩
      obtain ⟨m, hm, rfl⟩ := ref_at hx
      have hi : i < (ordR h).length := by
        rw [← pll]
        exact (List.getElem?_eq_some_iff.mp hm).1
      have hmm := e14 _ _ (pla13.2 i m _ hm (pls_at hi))
      have hno := nodup_take (nodup_ordR h) hi
      refine ⟨m, _, rfl, tT hmm, rfl, _, _, rfl, _, _, rfl, rfl, ?_⟩
      refine ⟨_, rfl, .ref nu, rfl, .int (ordR h)[i], rfl, nu, _, rfl, DPut.k (k := Sum.inl (ordR h)[i]) hnu14 (small1000 ?_), ?_⟩
      · rw [List.length_map, List.length_take]
        omega
      · refine ⟨_, _, rfl, Ex.mut e14 hnu, ?_⟩
        rw [upd_same, putK_new _ (val_no hno), List.take_add_one, List.getElem?_eq_getElem hi, List.map_append]
        rfl
    rintro σ H14 ⟨x9, x10, rfl, e14, hnu14⟩
    rw [List.length_map, pll, List.take_length] at hnu14
    have hnu14 : H14 nu = some (.dK (numK c h)) := hnu14
    have hL14 := e14 _ _ hL13
    have hO14 := hO13.ex e14
    have st14 := st13.ex e14
    have rw14 := rw13.ex e14
    have hla14 := e14 _ _ hla13
    clear e13 e14 pla13 hO13 st13 rw13 hpl13 hla13 hL13 hnu
    -- the gap
    refine ⟨.ref nu, rfl, nu, rfl, .inl ⟨_, .inl hnu14⟩, .int one, rfl, _, DGet.k (k := Sum.inl one) hnu14, ?_⟩
    refine ⟨.ref nu, rfl, nu, rfl, .inl ⟨_, .inl hnu14⟩, .int ot, rfl, _, DGet.k (k := Sum.inl ot) hnu14, ?_⟩
    rw [num_get, num_get]
    refine ⟨_, _, rfl, rfl, ?_⟩
    refine ⟨.ref o, rfl, .ref r, rfl, .int one, rfl, .int ot, rfl, o, r, n, c, cs, one, ot, rfl, hO14, rw14, p1, p2, hne, fun H15 e15 => ?_⟩
    refine ⟨_, _, rfl, rfl, .inl ⟨_, rfl, .ref o, rfl, o, _, 1, _, rfl, rfl, tT (hO14.ex e15).at_, at1, _, (c : Int), rfl, rfl, (by show (0 : Int) < (c : Int); omega), ?_⟩⟩
    dsimp only
    rw [hcnt one, hcnt ot, gap_zero]
    refine ⟨rfl, _, rfl, ifF rfl ?_⟩
    have hL15 := e15 _ _ hL14
    have hO15 := hO14.ex e15
    have st15 := st14.ex e15
    have rw15 := rw14.ex e15
    have hla15 := e15 _ _ hla14
    clear e15 hO14 st14 rw14 hla14 hL14 hnu14
    -- who is due
    refine ⟨fun σ H' => σ = [some (.ref a), some (.ref p), some (.ref o), some (.ref b), some (.ref r), some (.int one), some (.int ot), some (.ref pl), some (.ref la), x9, x10, some (.ref L), some (.ref nu), some (dueV one ot h), none, none] ∧ H' = H15, ?_, ?_⟩
    · have hs : SqL K H15 L ((ordR h).map V.int) := tL hL15
      refine ⟨.int one, rfl, .ref L, rfl, _, _, rfl, .inl hs, rfl, flat_ints _, _, rfl, ?_⟩
      rw [in_ints]
      by_cases n1 : last one h = -1
      · have k1 : (ordR h).contains one = false := by rw [in_ord, n1]; rfl
        rw [k1]
        refine ifT rfl ⟨.int ot, rfl, .ref L, rfl, _, _, rfl, .inl hs, rfl, flat_ints _, _, rfl, ?_⟩
        rw [in_ints]
        by_cases n2 : last ot h = -1
        · have k2 : (ordR h).contains ot = false := by rw [in_ord, n2]; rfl
          rw [k2]
          refine ifT rfl ?_
          refine ⟨?_, rfl⟩
          unfold dueV
          rw [if_pos ⟨n1, n2⟩]
          rfl
        · have k2 : (ordR h).contains ot = true := by rw [in_ord, decide_eq_false n2]; rfl
          rw [k2]
          refine ifF rfl ?_
          refine ⟨.int one, rfl, .ref L, rfl, _, _, rfl, .inl hs, rfl, flat_ints _, _, rfl, ?_⟩
          rw [in_ints, k1]
          refine ifF rfl (iteF ?_)
          refine ⟨.int one, rfl, .ref L, rfl, _, _, rfl, .inl hs, rfl, flat_ints _, _, rfl, ?_⟩
          rw [in_ints, k1]
          refine ifF rfl ?_
          refine ⟨.int one, rfl, ?_, rfl⟩
          unfold dueV
          have g2 := last_ge ot h
          rw [if_neg (fun z => n2 z.2), if_pos (by omega)]
          rfl
      · have k1 : (ordR h).contains one = true := by rw [in_ord, decide_eq_false n1]; rfl
        have g1 := last_ge one h
        rw [k1]
        refine ifF rfl (iteF ?_)
        refine ⟨.int one, rfl, .ref L, rfl, _, _, rfl, .inl hs, rfl, flat_ints _, _, rfl, ?_⟩
        rw [in_ints, k1]
        refine ifT rfl ⟨.int ot, rfl, .ref L, rfl, _, _, rfl, .inl hs, rfl, flat_ints _, _, rfl, ?_⟩
        rw [in_ints]
        by_cases n2 : last ot h = -1
        · have k2 : (ordR h).contains ot = false := by rw [in_ord, n2]; rfl
          rw [k2]
          refine ifF rfl ?_
          refine ⟨.int one, rfl, .ref L, rfl, _, _, rfl, .inl hs, rfl, flat_ints _, _, rfl, ?_⟩
          rw [in_ints, k1]
          refine ifT rfl ?_
          refine ⟨.int ot, rfl, ?_, rfl⟩
          unfold dueV
          rw [if_neg (fun z => n1 z.1), if_neg (by omega)]
          rfl
        · have k2 : (ordR h).contains ot = true := by rw [in_ord, decide_eq_false n2]; rfl
          rw [k2]
          refine ifT rfl ?_
          have m1 : one ∈ h := Classical.byContradiction fun z => n1 (last_none.mpr z)
          have m2 : ot ∈ h := Classical.byContradiction fun z => n2 (last_none.mpr z)
          have oi := ord_idx hne m1 m2
          have mo1 := mem_ordR.mpr m1
          have mo2 := mem_ordR.mpr m2
          refine ⟨.ref L, rfl, .inl ⟨rfl, _, tL hL15⟩, .int one, rfl, _, _, one, rfl, rfl, hs, mo1, ?_⟩
          refine ⟨.ref L, rfl, .inl ⟨rfl, _, tL hL15⟩, .int ot, rfl, _, _, ot, rfl, rfl, hs, mo2, ?_⟩
          refine ⟨_, _, rfl, rfl, _, rfl, ?_⟩
          by_cases hlt : (((ordR h).idxOf one : Nat) : Int) < (((ordR h).idxOf ot : Nat) : Int)
          · refine ifT (decide_eq_true hlt) ⟨.int one, rfl, ?_, rfl⟩
            unfold dueV
            rw [if_neg (fun z => n1 z.1), if_pos (oi.mp (by omega))]
            rfl
          · refine ifF (decide_eq_false hlt) ⟨.int ot, rfl, ?_, rfl⟩
            unfold dueV
            rw [if_neg (fun z => n1 z.1), if_neg (fun z => hlt (by have := oi.mpr z; omega))]
            rfl
    rintro σ _ ⟨rfl, rfl⟩
    -- ahead_by
    have sd := scal_due one ot h
    refine ⟨.ref o, rfl, .ref r, rfl, .int one, rfl, .int ot, rfl, o, r, n, c, cs, one, ot, rfl, hO15, rw15, p1, p2, hne, fun H16 e16 => ?_⟩
    rw [hh]
    refine ⟨dueV one ot h, rfl, sd, _, rfl, ifF (by rw [decide_eq_true rfl]; rfl) ?_⟩
    refine ⟨.ref o, rfl, .ref r, rfl, .int ot, rfl, .int one, rfl, o, r, n, c, cs, ot, one, rfl, hO15.ex e16, rw15.ex e16, p2, p1, fun z => hne z.symm, fun H17 e17 => ?_⟩
    rw [hh, due_symm hne]
    refine ⟨dueV one ot h, rfl, sd, _, rfl, ifF (by rw [decide_eq_true rfl]; rfl) ?_⟩
    have e1617 := e16.trans e17
    have hO17 := hO15.ex e1617
    have st17 := st15.ex e1617
    have rw17 := rw15.ex e1617
    have hla17 := e1617 _ _ hla15
    have sd1 := scal_due1 one ot one h
    clear e16 e17 e1617 hO15 st15 rw15 hla15 hL15
    -- the lasts
    refine ⟨fun σ H' => σ = [some (.ref a), some (.ref p), some (.ref o), some (.ref b), some (.ref r), some (.int one), some (.int ot), some (.ref pl), some (.ref la), x9, x10, some (.ref L), some (.ref nu), some (dueV one ot h), none, none] ∧ H' = H17, ?_, ?_⟩
    · refine ⟨dueV one ot h, rfl, .int one, rfl, sd1, _, rfl, ?_⟩
      by_cases ed : dueV one ot h = .int one
      · refine ifT (decide_eq_true ed) ?_
        refine ⟨.ref la, rfl, .int one, rfl, la, _, one, lastV one h, rfl, rfl, tT hla17, lsts_at p1, rfl, _, rfl, ?_⟩
        by_cases n1 : last one h = -1
        · have l1 : lastV one h = .non := by unfold lastV; rw [if_pos n1]
          exact ifF (by rw [l1]; rfl) (iteF ⟨rfl, rfl⟩)
        · have l1 : lastV one h = .int (last one h) := by unfold lastV; rw [if_neg n1]
          rw [l1]
          refine ifT rfl ?_
          refine ⟨.ref la, rfl, .int ot, rfl, la, _, ot, lastV ot h, rfl, rfl, tT hla17, lsts_at p2, rfl, _, rfl, ?_⟩
          by_cases n2 : last ot h = -1
          · have l2 : lastV ot h = .non := by unfold lastV; rw [if_pos n2]
            exact ifF (by rw [l2]; rfl) (iteF ⟨rfl, rfl⟩)
          · have l2 : lastV ot h = .int (last ot h) := by unfold lastV; rw [if_neg n2]
            rw [l2]
            refine ifT rfl ?_
            refine ⟨.ref la, rfl, .int one, rfl, la, _, one, lastV one h, rfl, rfl, tT hla17, lsts_at p1, ?_⟩
            refine ⟨.ref la, rfl, .int ot, rfl, la, _, ot, lastV ot h, rfl, rfl, tT hla17, lsts_at p2, ?_⟩
            rw [l1, l2]
            refine ⟨_, _, rfl, rfl, _, rfl, ifF (decide_eq_false fun z => ?_) ⟨rfl, rfl⟩⟩
            unfold dueV at ed
            rw [if_neg (fun z => n1 z.1), if_neg (by omega)] at ed
            exact hne (V.int.inj ed).symm
      · exact ifF (decide_eq_false ed) (iteF ⟨rfl, rfl⟩)
    rintro σ _ ⟨rfl, rfl⟩
    -- after
    refine ⟨.ref o, rfl, .ref b, rfl, .ref r, rfl, o, b, r, n, c, S, cs, rfl, hO17, st17, v, rw17, fun en H18 e18 ste => ?_⟩
    rw [hh] at ste
    have hO18 := hO17.ex e18
    have st18 := st17.ex e18
    have rw18 := rw17.ex e18
    have vE : Val n c (CkM.after S h) := v.after fun y hy => rw17.per y ((hmem y).mpr hy)
    have hdue : (dueV one ot h = .non) ∨ (dueV one ot h = .int one ∧ ahead (CkM.after S h) ot one = false) ∨ (dueV one ot h = .int ot ∧ ahead (CkM.after S h) one ot = false) := by
      by_cases n0 : last one h = -1 ∧ last ot h = -1
      · refine .inl ?_
        unfold dueV
        rw [if_pos n0]
      · by_cases lt : last one h < last ot h
        · refine .inr (.inl ⟨?_, due_ahead vE p2 lt⟩)
          unfold dueV
          rw [if_neg n0, if_pos lt]
        · have ne : last one h ≠ last ot h := fun e => by
            have z := last_inj hne e
            exact n0 ⟨z, e ▸ z⟩
          refine .inr (.inr ⟨?_, due_ahead vE p1 (by omega)⟩)
          unfold dueV
          rw [if_neg n0, if_neg lt]
    clear hla17 hO17 st17 rw17 sd e18
    generalize dueV one ot h = dv at hdue sd1
    generalize hE : CkM.after S h = E at ste vE hdue
    refine ⟨fun σ H' => σ = [some (.ref a), some (.ref p), some (.ref o), some (.ref b), some (.ref r), some (.int one), some (.int ot), some (.ref pl), some (.ref la), x9, x10, some (.ref L), some (.ref nu), some dv, some (.ref en), none] ∧ Ex H18 H', ?_, ?_⟩
    · refine ⟨dv, rfl, rfl, _, rfl, ?_⟩
      rcases hdue with rfl | ⟨rfl, ha⟩ | ⟨rfl, ha⟩
      · exact ifF rfl (iteF ⟨rfl, Ex.refl _⟩)
      · refine ifT rfl ?_
        refine ⟨.ref o, rfl, .ref en, rfl, .int one, rfl, .int one, rfl, rfl, _, rfl, ifT (decide_eq_true rfl) ?_⟩
        refine ⟨.int ot, rfl, .int one, rfl, o, en, n, c, E, ot, one, rfl, hO18, ste, vE, p2, p1, fun z => hne z.symm, fun H19 e19 => ?_⟩
        rw [ha]
        exact ⟨_, rfl, ifF rfl ⟨rfl, e19⟩⟩
      · refine ifT rfl ?_
        refine ⟨.ref o, rfl, .ref en, rfl, .int ot, rfl, .int one, rfl, rfl, _, rfl, ifF (decide_eq_false fun z => hne (V.int.inj z).symm) ?_⟩
        refine ⟨.int one, rfl, .int ot, rfl, o, en, n, c, E, one, ot, rfl, hO18, ste, vE, p1, p2, hne, fun H19 e19 => ?_⟩
        rw [ha]
        exact ⟨_, rfl, ifF rfl ⟨rfl, e19⟩⟩
    rintro σ H19 ⟨rfl, e19⟩
    have hO19 := hO18.ex e19
    have st19 := st18.ex e19
    have rw19 := rw18.ex e19
    have ste19 := ste.ex e19
    clear hO18 st18 rw18 ste e19 hdue
    -- overtakings
    refine ⟨.ref o, rfl, .ref b, rfl, .ref r, rfl, o, b, r, n, c, S, cs, rfl, hO19, st19, v, rw19, fun t H20 ys e20 ht hlen hys => ?_⟩
    rw [hh, hE] at hys
    refine ⟨t, rfl, ⟨_, tT ht⟩, fun M hM => ?_⟩
    refine lc_tup (K := K) (a := t) (xs := ys) (fun i H' => Ex H20 H' ∧ H' M = some (.lst [])) ⟨Ex.new hM, upd_same⟩ (fun i H' _ ⟨e, _⟩ => tT (e _ _ ht)) ?_ ?_
    · rintro i x H21 hx ⟨e21, hm21⟩
      obtain ⟨u, a', b', rfl, hu', O⟩ := hys x (List.mem_of_getElem? hx)
      have e2021 := e20.trans e21
      have hu21 := e21 _ _ hu'
      have mc : a' ∈ cs := by
        refine (hmem a').mpr (over_called (b := b') v (hE ▸ vE) O.pb O.be ?_)
        rw [hE]
        exact O.ah
      have hcn : cs.contains a' = true := List.contains_iff_mem.mpr mc
      refine ⟨rfl, ?_⟩
      refine ⟨.ref u, rfl, u, _, 0, .int a', rfl, rfl, tT hu21, at0, .ref r, rfl, _, _, rfl, .inr (rw19.ex e2021).at_.sq, rfl, flat_ints _, _, rfl, ?_⟩
      rw [in_ints, hcn]
      refine ifF rfl ?_
      refine ⟨.ref o, rfl, .ref en, rfl, .ref u, rfl, u, _, 1, .int b', rfl, rfl, tT hu21, at1, .ref u, rfl, u, _, 0, .int a', rfl, rfl, tT hu21, at0, o, en, n, c, E, b', a', rfl, hO19.ex e2021, ste19.ex e2021, vE, O.pb, O.pa, fun z => bef_ne v O.be z.symm, fun H22 e22 => ?_⟩
      rw [O.ah]
      refine ⟨_, rfl, ifF rfl ⟨e21.trans e22, e22 _ _ hm21⟩⟩
    rintro H23 ⟨e23, hm23⟩
    refine ⟨(by show 0 ≤ sizeLine; decide), fun N hN => ?_⟩
    exact ⟨.list [], .list [], .lst (tL (by rw [upd_ne (ne_of_none hm23 hN)]; exact hm23)) .nil, .lst (tL upd_same) .nil, rfl, rfl, q _⟩
end
end CkD


set_option linter.all false
set_option maxRecDepth 100000
set_option maxHeartbeats 8000000
/-! What the top has written, the head. -/
namespace CkD
open PySem PySem.Spec PyProof.Rows L2 CkR CkM
theorem Df.cal {P : Program} {w : World} {K : PySem.W.Frag} {mg : Str → Option Value} {base : Heap} {k : Nat} {x : Str} {st : Stmt} {ps : List Str} {sp : Sp} {f : Addr} {fd : FuncData} (D : Df K mg x st f fd) (ok : FnOk P w K mg base CX0 k f fd ps sp) (b : Binds K fd ps []) : Cal P w K mg base k x ps sp f fd := ⟨ok, D.g, D.F.kp, b⟩
theorem all_mk {l : PySem.W.OpenLaw} {w : World} {K : PySem.W.Frag} {h : Heap} {mg : Str → Option Value} {fa f0 f1 f2 f3 f4 f5 f6 f7 f8 f9 f10 f11 f12 f13 f14 f15 f16 f17 f18 f19 f20 f21 f22 f23 : Addr} (X : K.In h) (G : h.Ns mainGlobals mg) (hfa : mg "law" = some (.ref fa))
    {od0 an0 od1 an1 od2 an2 od3 an3 od4 an4 od5 an5 od6 an6 od7 an7 od8 an8 od9 an9 od10 an10 od11 an11 od12 an12 od13 an13 od14 an14 od15 an15 od16 an16 od17 an17 od18 an18 od19 an19 od20 an20 od21 an21 od22 an22 od23 an23 : Option Addr} {sl0 sl1 sl2 sl3 sl4 sl5 sl6 sl7 sl8 sl9 sl10 sl11 sl12 sl13 sl14 sl15 sl16 sl17 sl18 sl19 sl20 sl21 sl22 sl23 : Array (Option Value)} {oc0 kV0 dc0 pm0 cd0 ct0 oc1 kV1 dc1 pm1 cd1 ct1 oc2 kV2 dc2 pm2 cd2 ct2 oc3 kV3 dc3 pm3 cd3 ct3 oc4 kV4 dc4 pm4 cd4 ct4 oc5 kV5 dc5 pm5 cd5 ct5 oc6 kV6 dc6 pm6 cd6 ct6 oc7 kV7 dc7 pm7 cd7 ct7 oc8 kV8 dc8 pm8 cd8 ct8 oc9 kV9 dc9 pm9 cd9 ct9 oc10 kV10 dc10 pm10 cd10 ct10 oc11 kV11 dc11 pm11 cd11 ct11 oc12 kV12 dc12 pm12 cd12 ct12 oc13 kV13 dc13 pm13 cd13 ct13 oc14 kV14 dc14 pm14 cd14 ct14 oc15 kV15 dc15 pm15 cd15 ct15 oc16 kV16 dc16 pm16 cd16 ct16 oc17 kV17 dc17 pm17 cd17 ct17 oc18 kV18 dc18 pm18 cd18 ct18 oc19 kV19 dc19 pm19 cd19 ct19 oc20 kV20 dc20 pm20 cd20 ct20 oc21 kV21 dc21 pm21 cd21 ct21 oc22 kV22 dc22 pm22 cd22 ct22 oc23 kV23 dc23 pm23 cd23 ct23 : Value}
    {tk0 tk1 tk2 : Tok}
    (a0 : PySem.W.nsIn K mainGlobals "is_integer" = some (some (.ref f0))) (l0 : K.lookup f0 = some ⟨oc0, od0, .func (PySem.W.fnOf "is_integer" "is_integer" (defArgs sIsInt) (defBody sIsInt) (defScope sIsInt) .none kV0 dc0 pm0 an0 cd0 ct0), sl0⟩) (c0 : PySem.W.codeIn K cd0 "is_integer" = true) (k0 : PySem.W.keepIn K (.ref f0) = true)
    (a1 : PySem.W.nsIn K mainGlobals "is_in" = some (some (.ref f1))) (l1 : K.lookup f1 = some ⟨oc1, od1, .func (PySem.W.fnOf "is_in" "is_in" (defArgs sIsIn) (defBody sIsIn) (defScope sIsIn) .none kV1 dc1 pm1 an1 cd1 ct1), sl1⟩) (c1 : PySem.W.codeIn K cd1 "is_in" = true) (k1 : PySem.W.keepIn K (.ref f1) = true)
    (a2 : PySem.W.nsIn K mainGlobals "is_list" = some (some (.ref f2))) (l2 : K.lookup f2 = some ⟨oc2, od2, .func (PySem.W.fnOf "is_list" "is_list" (defArgs sIsList) (defBody sIsList) (defScope sIsList) .none kV2 dc2 pm2 an2 cd2 ct2), sl2⟩) (c2 : PySem.W.codeIn K cd2 "is_list" = true) (k2 : PySem.W.keepIn K (.ref f2) = true)
    (a3 : PySem.W.nsIn K mainGlobals "need_office" = some (some (.ref f3))) (l3 : K.lookup f3 = some ⟨oc3, od3, .func (PySem.W.fnOf "need_office" "need_office" (defArgs sNeedOffice) (defBody sNeedOffice) (defScope sNeedOffice) .none kV3 dc3 pm3 an3 cd3 ct3), sl3⟩) (c3 : PySem.W.codeIn K cd3 "need_office" = true) (k3 : PySem.W.keepIn K (.ref f3) = true)
    (a4 : PySem.W.nsIn K mainGlobals "need_lines" = some (some (.ref f4))) (l4 : K.lookup f4 = some ⟨oc4, od4, .func (PySem.W.fnOf "need_lines" "need_lines" (defArgs sNeedLines) (defBody sNeedLines) (defScope sNeedLines) .none kV4 dc4 pm4 an4 cd4 ct4), sl4⟩) (c4 : PySem.W.codeIn K cd4 "need_lines" = true) (k4 : PySem.W.keepIn K (.ref f4) = true)
    (a5 : PySem.W.nsIn K mainGlobals "need_state" = some (some (.ref f5))) (l5 : K.lookup f5 = some ⟨oc5, od5, .func (PySem.W.fnOf "need_state" "need_state" (defArgs sNeedState) (defBody sNeedState) (defScope sNeedState) .none kV5 dc5 pm5 an5 cd5 ct5), sl5⟩) (c5 : PySem.W.codeIn K cd5 "need_state" = true) (k5 : PySem.W.keepIn K (.ref f5) = true)
    (a6 : PySem.W.nsIn K mainGlobals "need_person" = some (some (.ref f6))) (l6 : K.lookup f6 = some ⟨oc6, od6, .func (PySem.W.fnOf "need_person" "need_person" (defArgs sNeedPerson) (defBody sNeedPerson) (defScope sNeedPerson) .none kV6 dc6 pm6 an6 cd6 ct6), sl6⟩) (c6 : PySem.W.codeIn K cd6 "need_person" = true) (k6 : PySem.W.keepIn K (.ref f6) = true)
    (a7 : PySem.W.nsIn K mainGlobals "counter_of" = some (some (.ref f7))) (l7 : K.lookup f7 = some ⟨oc7, od7, .func (PySem.W.fnOf "counter_of" "counter_of" (defArgs sCounterOf) (defBody sCounterOf) (defScope sCounterOf) .none kV7 dc7 pm7 an7 cd7 ct7), sl7⟩) (c7 : PySem.W.codeIn K cd7 "counter_of" = true) (k7 : PySem.W.keepIn K (.ref f7) = true)
    (a8 : PySem.W.nsIn K mainGlobals "need_calls" = some (some (.ref f8))) (l8 : K.lookup f8 = some ⟨oc8, od8, .func (PySem.W.fnOf "need_calls" "need_calls" (defArgs sNeedCalls) (defBody sNeedCalls) (defScope sNeedCalls) .none kV8 dc8 pm8 an8 cd8 ct8), sl8⟩) (c8 : PySem.W.codeIn K cd8 "need_calls" = true) (k8 : PySem.W.keepIn K (.ref f8) = true)
    (a9 : PySem.W.nsIn K mainGlobals "call_in" = some (some (.ref f9))) (l9 : K.lookup f9 = some ⟨oc9, od9, .func (PySem.W.fnOf "call_in" "call_in" (defArgs sCallIn) (defBody sCallIn) (defScope sCallIn) .none kV9 dc9 pm9 an9 cd9 ct9), sl9⟩) (c9 : PySem.W.codeIn K cd9 "call_in" = true) (k9 : PySem.W.keepIn K (.ref f9) = true)
    (a10 : PySem.W.nsIn K mainGlobals "story_in" = some (some (.ref f10))) (l10 : K.lookup f10 = some ⟨oc10, od10, .func (PySem.W.fnOf "story_in" "story_in" (defArgs sStoryIn) (defBody sStoryIn) (defScope sStoryIn) .none kV10 dc10 pm10 an10 cd10 ct10), sl10⟩) (c10 : PySem.W.codeIn K cd10 "story_in" = true) (k10 : PySem.W.keepIn K (.ref f10) = true)
    (a11 : PySem.W.nsIn K mainGlobals "after" = some (some (.ref f11))) (l11 : K.lookup f11 = some ⟨oc11, od11, .func (PySem.W.fnOf "after" "after" (defArgs sAfter) (defBody sAfter) (defScope sAfter) .none kV11 dc11 pm11 an11 cd11 ct11), sl11⟩) (c11 : PySem.W.codeIn K cd11 "after" = true) (k11 : PySem.W.keepIn K (.ref f11) = true)
    (a12 : PySem.W.nsIn K mainGlobals "need_pair" = some (some (.ref f12))) (l12 : K.lookup f12 = some ⟨oc12, od12, .func (PySem.W.fnOf "need_pair" "need_pair" (defArgs sNeedPair) (defBody sNeedPair) (defScope sNeedPair) .none kV12 dc12 pm12 an12 cd12 ct12), sl12⟩) (c12 : PySem.W.codeIn K cd12 "need_pair" = true) (k12 : PySem.W.keepIn K (.ref f12) = true)
    (a13 : PySem.W.nsIn K mainGlobals "moved_gap" = some (some (.ref f13))) (l13 : K.lookup f13 = some ⟨oc13, od13, .func (PySem.W.fnOf "moved_gap" "moved_gap" (defArgs sMovedGap) (defBody sMovedGap) (defScope sMovedGap) .none kV13 dc13 pm13 an13 cd13 ct13), sl13⟩) (c13 : PySem.W.codeIn K cd13 "moved_gap" = true) (k13 : PySem.W.keepIn K (.ref f13) = true)
    (a14 : PySem.W.nsIn K mainGlobals "ahead_by" = some (some (.ref f14))) (l14 : K.lookup f14 = some ⟨oc14, od14, .func (PySem.W.fnOf "ahead_by" "ahead_by" (defArgs sAheadBy) (defBody sAheadBy) (defScope sAheadBy) .none kV14 dc14 pm14 an14 cd14 ct14), sl14⟩) (c14 : PySem.W.codeIn K cd14 "ahead_by" = true) (k14 : PySem.W.keepIn K (.ref f14) = true)
    (a15 : PySem.W.nsIn K mainGlobals "is_ahead" = some (some (.ref f15))) (l15 : K.lookup f15 = some ⟨oc15, od15, .func (PySem.W.fnOf "is_ahead" "is_ahead" (defArgs sIsAhead) (defBody sIsAhead) (defScope sIsAhead) .none kV15 dc15 pm15 an15 cd15 ct15), sl15⟩) (c15 : PySem.W.codeIn K cd15 "is_ahead" = true) (k15 : PySem.W.keepIn K (.ref f15) = true)
    (a16 : PySem.W.nsIn K mainGlobals "overtakings" = some (some (.ref f16))) (l16 : K.lookup f16 = some ⟨oc16, od16, .func (PySem.W.fnOf "overtakings" "overtakings" (defArgs sOvertakings) (defBody sOvertakings) (defScope sOvertakings) .none kV16 dc16 pm16 an16 cd16 ct16), sl16⟩) (c16 : PySem.W.codeIn K cd16 "overtakings" = true) (k16 : PySem.W.keepIn K (.ref f16) = true)
    (a17 : PySem.W.nsIn K mainGlobals "full_plan" = some (some (.ref f17))) (l17 : K.lookup f17 = some ⟨oc17, od17, .func (PySem.W.fnOf "full_plan" "full_plan" (defArgs sFullPlan) (defBody sFullPlan) (defScope sFullPlan) .none kV17 dc17 pm17 an17 cd17 ct17), sl17⟩) (c17 : PySem.W.codeIn K cd17 "full_plan" = true) (k17 : PySem.W.keepIn K (.ref f17) = true)
    (a18 : PySem.W.nsIn K mainGlobals "plan_of" = some (some (.ref f18))) (l18 : K.lookup f18 = some ⟨oc18, od18, .func (PySem.W.fnOf "plan_of" "plan_of" (defArgs sPlanOf) (defBody sPlanOf) (defScope sPlanOf) .none kV18 dc18 pm18 an18 cd18 ct18), sl18⟩) (c18 : PySem.W.codeIn K cd18 "plan_of" = true) (k18 : PySem.W.keepIn K (.ref f18) = true)
    (a19 : PySem.W.nsIn K mainGlobals "last_calls" = some (some (.ref f19))) (l19 : K.lookup f19 = some ⟨oc19, od19, .func (PySem.W.fnOf "last_calls" "last_calls" (defArgs sLastCalls) (defBody sLastCalls) (defScope sLastCalls) .none kV19 dc19 pm19 an19 cd19 ct19), sl19⟩) (c19 : PySem.W.codeIn K cd19 "last_calls" = true) (k19 : PySem.W.keepIn K (.ref f19) = true)
    (a20 : PySem.W.nsIn K mainGlobals "_law_taken" = some (some (.ref f20))) (l20 : K.lookup f20 = some ⟨oc20, od20, .func (PySem.W.fnOf "_law_taken" "_law_taken" (defArgs sTaken) (defBody sTaken) (defScope sTaken) .none kV20 dc20 pm20 an20 cd20 ct20), sl20⟩) (c20 : PySem.W.codeIn K cd20 "_law_taken" = true) (k20 : PySem.W.keepIn K (.ref f20) = true)
    (a21 : PySem.W.nsIn K mainGlobals "_law_state" = some (some (.ref f21))) (l21 : K.lookup f21 = some ⟨oc21, od21, .func (PySem.W.fnOf "_law_state" "_law_state" (defArgs sDrawState) (defBody sDrawState) (defScope sDrawState) .none kV21 dc21 pm21 an21 cd21 ct21), sl21⟩) (c21 : PySem.W.codeIn K cd21 "_law_state" = true) (k21 : PySem.W.keepIn K (.ref f21) = true)
    (a22 : PySem.W.nsIn K mainGlobals "_law_row" = some (some (.ref f22))) (l22 : K.lookup f22 = some ⟨oc22, od22, .func (PySem.W.fnOf "_law_row" "_law_row" (defArgs sDrawRow) (defBody sDrawRow) (defScope sDrawRow) .none kV22 dc22 pm22 an22 cd22 ct22), sl22⟩) (c22 : PySem.W.codeIn K cd22 "_law_row" = true) (k22 : PySem.W.keepIn K (.ref f22) = true)
    (a23 : PySem.W.nsIn K mainGlobals "law" = some (some (.ref f23))) (l23 : K.lookup f23 = some ⟨oc23, od23, .func (PySem.W.fnOf "law" "law" (defArgs sLaw) (defBody sLaw) (defScope sLaw) .none kV23 dc23 pm23 an23 cd23 ct23), sl23⟩) (c23 : PySem.W.codeIn K cd23 "law" = true) (k23 : PySem.W.keepIn K (.ref f23) = true)
    (zisi : PySem.W.nsIn K mainGlobals "isinstance" = some none)
    (zint : PySem.W.nsIn K mainGlobals "int" = some none)
    (zbool : PySem.W.nsIn K mainGlobals "bool" = some none)
    (ztup : PySem.W.nsIn K mainGlobals "tuple" = some none)
    (zlen : PySem.W.nsIn K mainGlobals "len" = some none)
    (zenu : PySem.W.nsIn K mainGlobals "enumerate" = some none)
    (zmax : PySem.W.nsIn K mainGlobals "max" = some none)
    (zsrt : PySem.W.nsIn K mainGlobals "sorted" = some none)
    (zrng : PySem.W.nsIn K mainGlobals "range" = some none)
    (zlst : PySem.W.nsIn K mainGlobals "list" = some none)
    (zmp7 : PySem.W.nsIn K mainGlobals "MOST_PEOPLE" = some (some (.int 7 tk0)))
    (zmc6 : PySem.W.nsIn K mainGlobals "MOST_COUNTERS" = some (some (.int 6 tk1)))
    (zmk60 : PySem.W.nsIn K mainGlobals "MOST_CALLS" = some (some (.int 60 tk2)))
    : ∃ fd : FuncData, (∀ (s : Shared) (v : Value), BindsTo s fd ⟨[v], []⟩ [("_law_script", v)]) ∧ ∀ base : Heap, K.In base → base.Ns mainGlobals mg → FnOk l.prog w K mg base CX0 6 fa fd ["_law_script"] (spLaw K) := by
  have e := hfa.symm.trans (PySem.W.mg_of X G a23)
  cases e
  have B : Bl mg := ⟨PySem.W.mg_none_of X G zisi, PySem.W.mg_none_of X G zint, PySem.W.mg_none_of X G zbool, PySem.W.mg_none_of X G ztup, PySem.W.mg_none_of X G zlen, PySem.W.mg_none_of X G zenu, PySem.W.mg_none_of X G zmax, PySem.W.mg_none_of X G zsrt, PySem.W.mg_none_of X G zrng, PySem.W.mg_none_of X G zlst, ⟨_, PySem.W.mg_of X G zmp7⟩, ⟨_, PySem.W.mg_of X G zmc6⟩, ⟨_, PySem.W.mg_of X G zmk60⟩⟩
  refine ⟨PySem.W.fnOf "law" "law" (defArgs sLaw) (defBody sLaw) (defScope sLaw) .none kV23 dc23 pm23 an23 cd23 ct23, fun s v => .of_eq rfl, fun base _ _ => ?_⟩
  have DisInt : Df K mg "is_integer" sIsInt f0 _ := ⟨fun_mk (st := sIsInt) l0 c0 k0, PySem.W.mg_of X G a0⟩
  have bisInt := DisInt.F.binds (ps := ["value"]) fun _ _ _ _ _ _ us hl => match us, hl with | [_], _ => rfl
  have CisInt : Cal l.prog w K mg base 1 "is_integer" ["value"] spIsInt f0 _ := DisInt.cal (ok_isInt DisInt B) bisInt
  have DisIn : Df K mg "is_in" sIsIn f1 _ := ⟨fun_mk (st := sIsIn) l1 c1 k1, PySem.W.mg_of X G a1⟩
  have bisIn := DisIn.F.binds (ps := ["value", "least", "most"]) fun _ _ _ _ _ _ us hl => match us, hl with | [_, _, _], _ => rfl
  have CisIn : Cal l.prog w K mg base 2 "is_in" ["value", "least", "most"] spIsIn f1 _ := DisIn.cal (ok_isIn DisIn DisInt B) bisIn
  have DisList : Df K mg "is_list" sIsList f2 _ := ⟨fun_mk (st := sIsList) l2 c2 k2, PySem.W.mg_of X G a2⟩
  have bisList := DisList.F.binds (ps := ["value", "least", "most"]) fun _ _ _ _ _ _ us hl => match us, hl with | [_, _, _], _ => rfl
  have CisList : Cal l.prog w K mg base 1 "is_list" ["value", "least", "most"] spIsList f2 _ := DisList.cal (ok_isList DisList B) bisList
  have DneedOffice : Df K mg "need_office" sNeedOffice f3 _ := ⟨fun_mk (st := sNeedOffice) l3 c3 k3, PySem.W.mg_of X G a3⟩
  have bneedOffice := DneedOffice.F.binds (ps := ["office"]) fun _ _ _ _ _ _ us hl => match us, hl with | [_], _ => rfl
  have CneedOffice : Cal l.prog w K mg base 3 "need_office" ["office"] spNeedOffice f3 _ := DneedOffice.cal (ok_needOffice DneedOffice CisList CisIn B) bneedOffice
  have DneedLines : Df K mg "need_lines" sNeedLines f4 _ := ⟨fun_mk (st := sNeedLines) l4 c4 k4, PySem.W.mg_of X G a4⟩
  have bneedLines := DneedLines.F.binds (ps := ["office", "state"]) fun _ _ _ _ _ _ us hl => match us, hl with | [_, _], _ => rfl
  have CneedLines : Cal l.prog w K mg base 3 "need_lines" ["office", "state"] spNeedLines f4 _ := DneedLines.cal (ok_needLines DneedLines CisList CisIn B) bneedLines
  have DneedState : Df K mg "need_state" sNeedState f5 _ := ⟨fun_mk (st := sNeedState) l5 c5 k5, PySem.W.mg_of X G a5⟩
  have bneedState := DneedState.F.binds (ps := ["office", "state"]) fun _ _ _ _ _ _ us hl => match us, hl with | [_, _], _ => rfl
  have CneedState : Cal l.prog w K mg base 4 "need_state" ["office", "state"] spNeedState f5 _ := DneedState.cal (ok_needState DneedState CneedOffice CneedLines) bneedState
  have DneedPerson : Df K mg "need_person" sNeedPerson f6 _ := ⟨fun_mk (st := sNeedPerson) l6 c6 k6, PySem.W.mg_of X G a6⟩
  have bneedPerson := DneedPerson.F.binds (ps := ["office", "person"]) fun _ _ _ _ _ _ us hl => match us, hl with | [_, _], _ => rfl
  have CneedPerson : Cal l.prog w K mg base 3 "need_person" ["office", "person"] spNeedPerson f6 _ := DneedPerson.cal (ok_needPerson DneedPerson CisIn) bneedPerson
  have DcounterOf : Df K mg "counter_of" sCounterOf f7 _ := ⟨fun_mk (st := sCounterOf) l7 c7 k7, PySem.W.mg_of X G a7⟩
  have bcounterOf := DcounterOf.F.binds (ps := ["state", "person"]) fun _ _ _ _ _ _ us hl => match us, hl with | [_, _], _ => rfl
  have CcounterOf : Cal l.prog w K mg base 1 "counter_of" ["state", "person"] spCounterOf f7 _ := DcounterOf.cal (ok_counterOf DcounterOf B) bcounterOf
  have DneedCalls : Df K mg "need_calls" sNeedCalls f8 _ := ⟨fun_mk (st := sNeedCalls) l8 c8 k8, PySem.W.mg_of X G a8⟩
  have bneedCalls := DneedCalls.F.binds (ps := ["office", "calls"]) fun _ _ _ _ _ _ us hl => match us, hl with | [_, _], _ => rfl
  have CneedCalls : Cal l.prog w K mg base 3 "need_calls" ["office", "calls"] spNeedCalls f8 _ := DneedCalls.cal (ok_needCalls DneedCalls CisList CisIn B) bneedCalls
  have DcallIn : Df K mg "call_in" sCallIn f9 _ := ⟨fun_mk (st := sCallIn) l9 c9 k9, PySem.W.mg_of X G a9⟩
  have bcallIn := DcallIn.F.binds (ps := ["state", "person"]) fun _ _ _ _ _ _ us hl => match us, hl with | [_, _], _ => rfl
  have CcallIn : Cal l.prog w K mg base 2 "call_in" ["state", "person"] spCallIn f9 _ := DcallIn.cal (ok_callIn DcallIn CcounterOf B) bcallIn
  have DstoryIn : Df K mg "story_in" sStoryIn f10 _ := ⟨fun_mk (st := sStoryIn) l10 c10 k10, PySem.W.mg_of X G a10⟩
  have bstoryIn := DstoryIn.F.binds (ps := ["state", "calls"]) fun _ _ _ _ _ _ us hl => match us, hl with | [_, _], _ => rfl
  have CstoryIn : Cal l.prog w K mg base 3 "story_in" ["state", "calls"] spStoryIn f10 _ := DstoryIn.cal (ok_storyIn DstoryIn CcallIn) bstoryIn
  have Dafter : Df K mg "after" sAfter f11 _ := ⟨fun_mk (st := sAfter) l11 c11 k11, PySem.W.mg_of X G a11⟩
  have bafter := Dafter.F.binds (ps := ["office", "state", "calls"]) fun _ _ _ _ _ _ us hl => match us, hl with | [_, _, _], _ => rfl
  have Cafter : Cal l.prog w K mg base 5 "after" ["office", "state", "calls"] spAfter f11 _ := Dafter.cal (ok_after Dafter CneedState CneedCalls CstoryIn) bafter
  have DneedPair : Df K mg "need_pair" sNeedPair f12 _ := ⟨fun_mk (st := sNeedPair) l12 c12 k12, PySem.W.mg_of X G a12⟩
  have bneedPair := DneedPair.F.binds (ps := ["office", "one", "other"]) fun _ _ _ _ _ _ us hl => match us, hl with | [_, _, _], _ => rfl
  have CneedPair : Cal l.prog w K mg base 4 "need_pair" ["office", "one", "other"] spNeedPair f12 _ := DneedPair.cal (ok_needPair DneedPair CneedPerson) bneedPair
  have DmovedGap : Df K mg "moved_gap" sMovedGap f13 _ := ⟨fun_mk (st := sMovedGap) l13 c13 k13, PySem.W.mg_of X G a13⟩
  have bmovedGap := DmovedGap.F.binds (ps := ["office", "calls", "one", "other"]) fun _ _ _ _ _ _ us hl => match us, hl with | [_, _, _, _], _ => rfl
  have CmovedGap : Cal l.prog w K mg base 5 "moved_gap" ["office", "calls", "one", "other"] spMovedGap f13 _ := DmovedGap.cal (ok_movedGap DmovedGap CneedOffice CneedCalls CneedPair) bmovedGap
  have DaheadBy : Df K mg "ahead_by" sAheadBy f14 _ := ⟨fun_mk (st := sAheadBy) l14 c14 k14, PySem.W.mg_of X G a14⟩
  have baheadBy := DaheadBy.F.binds (ps := ["office", "calls", "one", "other"]) fun _ _ _ _ _ _ us hl => match us, hl with | [_, _, _, _], _ => rfl
  have CaheadBy : Cal l.prog w K mg base 5 "ahead_by" ["office", "calls", "one", "other"] spAheadBy f14 _ := DaheadBy.cal (ok_aheadBy DaheadBy CneedOffice CneedCalls CneedPair B) baheadBy
  have DisAhead : Df K mg "is_ahead" sIsAhead f15 _ := ⟨fun_mk (st := sIsAhead) l15 c15 k15, PySem.W.mg_of X G a15⟩
  have bisAhead := DisAhead.F.binds (ps := ["office", "state", "one", "other"]) fun _ _ _ _ _ _ us hl => match us, hl with | [_, _, _, _], _ => rfl
  have CisAhead : Cal l.prog w K mg base 5 "is_ahead" ["office", "state", "one", "other"] spIsAhead f15 _ := DisAhead.cal (ok_isAhead DisAhead CneedState CneedPair CcounterOf) bisAhead
  have Dover : Df K mg "overtakings" sOvertakings f16 _ := ⟨fun_mk (st := sOvertakings) l16 c16 k16, PySem.W.mg_of X G a16⟩
  have bover := Dover.F.binds (ps := ["office", "state", "calls"]) fun _ _ _ _ _ _ us hl => match us, hl with | [_, _, _], _ => rfl
  have Cover : Cal l.prog w K mg base 5 "overtakings" ["office", "state", "calls"] spOvertakings f16 _ := Dover.cal (ok_over Dover CneedState CneedCalls CstoryIn CcounterOf B) bover
  have DfullPlan : Df K mg "full_plan" sFullPlan f17 _ := ⟨fun_mk (st := sFullPlan) l17 c17 k17, PySem.W.mg_of X G a17⟩
  have bfullPlan := DfullPlan.F.binds (ps := ["counters", "calls"]) fun _ _ _ _ _ _ us hl => match us, hl with | [_, _], _ => rfl
  have CfullPlan : Cal l.prog w K mg base 1 "full_plan" ["counters", "calls"] spFullPlan f17 _ := DfullPlan.cal (ok_fullPlan DfullPlan B) bfullPlan
  have DplanOf : Df K mg "plan_of" sPlanOf f18 _ := ⟨fun_mk (st := sPlanOf) l18 c18 k18, PySem.W.mg_of X G a18⟩
  have bplanOf := DplanOf.F.binds (ps := ["office", "calls"]) fun _ _ _ _ _ _ us hl => match us, hl with | [_, _], _ => rfl
  have CplanOf : Cal l.prog w K mg base 4 "plan_of" ["office", "calls"] spPlanOf f18 _ := DplanOf.cal (ok_planOf DplanOf CneedOffice CneedCalls CfullPlan) bplanOf
  have DlastCalls : Df K mg "last_calls" sLastCalls f19 _ := ⟨fun_mk (st := sLastCalls) l19 c19 k19, PySem.W.mg_of X G a19⟩
  have blastCalls := DlastCalls.F.binds (ps := ["office", "calls"]) fun _ _ _ _ _ _ us hl => match us, hl with | [_, _], _ => rfl
  have ClastCalls : Cal l.prog w K mg base 4 "last_calls" ["office", "calls"] spLastCalls f19 _ := DlastCalls.cal (ok_lastCalls DlastCalls CneedOffice CneedCalls B) blastCalls
  have Dtaken : Df K mg "_law_taken" sTaken f20 _ := ⟨fun_mk (st := sTaken) l20 c20 k20, PySem.W.mg_of X G a20⟩
  have btaken := Dtaken.F.binds (ps := ["_law_row_here", "_law_many"]) fun _ _ _ _ _ _ us hl => match us, hl with | [_, _], _ => rfl
  have Ctaken : Cal l.prog w K mg base 1 "_law_taken" ["_law_row_here", "_law_many"] (spTaken K) f20 _ := Dtaken.cal (ok_taken Dtaken B) btaken
  have DdrawState : Df K mg "_law_state" sDrawState f21 _ := ⟨fun_mk (st := sDrawState) l21 c21 k21, PySem.W.mg_of X G a21⟩
  have bdrawState := DdrawState.F.binds (ps := ["_law_row_here", "_law_office"]) fun _ _ _ _ _ _ us hl => match us, hl with | [_, _], _ => rfl
  have CdrawState : Cal l.prog w K mg base 2 "_law_state" ["_law_row_here", "_law_office"] (spDrawState K) f21 _ := DdrawState.cal (ok_drawState DdrawState Ctaken B) bdrawState
  have DdrawRow : Df K mg "_law_row" sDrawRow f22 _ := ⟨fun_mk (st := sDrawRow) l22 c22 k22, PySem.W.mg_of X G a22⟩
  have bdrawRow := DdrawRow.F.binds (ps := ["_law_row_here", "_law_office", "_law_many"]) fun _ _ _ _ _ _ us hl => match us, hl with | [_, _, _], _ => rfl
  have CdrawRow : Cal l.prog w K mg base 2 "_law_row" ["_law_row_here", "_law_office", "_law_many"] (spDrawRow K) f22 _ := DdrawRow.cal (ok_drawRow DdrawRow Ctaken B) bdrawRow
  have Dlaw : Df K mg "law" sLaw fa _ := ⟨fun_mk (st := sLaw) l23 c23 k23, PySem.W.mg_of X G a23⟩
  exact ok_law Dlaw ⟨Ctaken, CdrawState, CdrawRow, CplanOf, ClastCalls, CmovedGap, CaheadBy, Cafter, CisAhead, Cover⟩ B
theorem walk {l : PySem.W.OpenLaw} {q : Program} {loose : List Str} {XP : (Str → Option Value) → Heap → Prop} {YP : World → Heap → Prop} {d : DefRec} {K : Params → PySem.W.Frag} (hn : l.most = some 63) (hdf : d.params.defaults = [])
    (hY : ∀ (w : World) (h : Heap), YP w h → (K w.params).In h)
    (F : ∀ (w : World) (mg : Str → Option Value) (fa : Addr) (h : Heap), (K w.params).In h → h.Ns mainGlobals mg → mg d.name = some (.ref fa) →
      ∃ fd : FuncData, (∀ (s : Shared) (u : Value), BindsTo s fd ⟨[u], []⟩ [("_law_script", u)]) ∧ ∀ base : Heap, (K w.params).In base → base.Ns mainGlobals mg → FnOk l.prog w (K w.params) mg base CX0 6 fa fd ["_law_script"] (spLaw (K w.params))) :
    PySem.W.WalkO q loose XP YP l.row.toRowW d [] (fun f vs => PySem.call f vs) :=
  L2.walk_of (n := 63) (k := 6) (x := "_law_script") (CX := fun _ => CX0) (sp := fun w => spLaw (K w.params)) hn (by decide) hdf ⟨rfl, by decide, by decide⟩ hY F (fun _ _ a ns hl _ hS => ⟨a, ns, rfl, hS, hl, fun _ => rfl⟩) fun _ _ _ _ _ z => z
end CkD

open PySem PySem.W PyProof.Rows in
set_option maxRecDepth 100000 in
set_option maxHeartbeats 0 in
theorem PySem.Challenge.cw_counterlines_k70_whole_orders_by_calls_holds : PySem.Challenge.rw_counterlines_k70_whole_orders_by_calls.Holds := by
  w_on; o_law; k_head; (case hw => w_witness2)
  k_fill
  refine CkD.walk (l := PySem.Challenge.rw_counterlines_k70_whole_orders_by_calls) rfl rfl (fun w h Y => PySem.W.kIn_of Y) ?F
  case F =>
    intro w mg fa h KX G hmg
    refine' CkD.all_mk KX G hmg ?a0 ?l0 ?c0 ?k0 ?a1 ?l1 ?c1 ?k1 ?a2 ?l2 ?c2 ?k2 ?a3 ?l3 ?c3 ?k3 ?a4 ?l4 ?c4 ?k4 ?a5 ?l5 ?c5 ?k5 ?a6 ?l6 ?c6 ?k6 ?a7 ?l7 ?c7 ?k7 ?a8 ?l8 ?c8 ?k8 ?a9 ?l9 ?c9 ?k9 ?a10 ?l10 ?c10 ?k10 ?a11 ?l11 ?c11 ?k11 ?a12 ?l12 ?c12 ?k12 ?a13 ?l13 ?c13 ?k13 ?a14 ?l14 ?c14 ?k14 ?a15 ?l15 ?c15 ?k15 ?a16 ?l16 ?c16 ?k16 ?a17 ?l17 ?c17 ?k17 ?a18 ?l18 ?c18 ?k18 ?a19 ?l19 ?c19 ?k19 ?a20 ?l20 ?c20 ?k20 ?a21 ?l21 ?c21 ?k21 ?a22 ?l22 ?c22 ?k22 ?a23 ?l23 ?c23 ?k23 ?zisi ?zint ?zbool ?ztup ?zlen ?zenu ?zmax ?zsrt ?zrng ?zlst ?zmp7 ?zmc6 ?zmk60
    (case a0 => k_is)
    (case l0 => k_is)
    (case c0 => k_is)
    (case k0 => k_is)
    (case a1 => k_is)
    (case l1 => k_is)
    (case c1 => k_is)
    (case k1 => k_is)
    (case a2 => k_is)
    (case l2 => k_is)
    (case c2 => k_is)
    (case k2 => k_is)
    (case a3 => k_is)
    (case l3 => k_is)
    (case c3 => k_is)
    (case k3 => k_is)
    (case a4 => k_is)
    (case l4 => k_is)
    (case c4 => k_is)
    (case k4 => k_is)
    (case a5 => k_is)
    (case l5 => k_is)
    (case c5 => k_is)
    (case k5 => k_is)
    (case a6 => k_is)
    (case l6 => k_is)
    (case c6 => k_is)
    (case k6 => k_is)
    (case a7 => k_is)
    (case l7 => k_is)
    (case c7 => k_is)
    (case k7 => k_is)
    (case a8 => k_is)
    (case l8 => k_is)
    (case c8 => k_is)
    (case k8 => k_is)
    (case a9 => k_is)
    (case l9 => k_is)
    (case c9 => k_is)
    (case k9 => k_is)
    (case a10 => k_is)
    (case l10 => k_is)
    (case c10 => k_is)
    (case k10 => k_is)
    (case a11 => k_is)
    (case l11 => k_is)
    (case c11 => k_is)
    (case k11 => k_is)
    (case a12 => k_is)
    (case l12 => k_is)
    (case c12 => k_is)
    (case k12 => k_is)
    (case a13 => k_is)
    (case l13 => k_is)
    (case c13 => k_is)
    (case k13 => k_is)
    (case a14 => k_is)
    (case l14 => k_is)
    (case c14 => k_is)
    (case k14 => k_is)
    (case a15 => k_is)
    (case l15 => k_is)
    (case c15 => k_is)
    (case k15 => k_is)
    (case a16 => k_is)
    (case l16 => k_is)
    (case c16 => k_is)
    (case k16 => k_is)
    (case a17 => k_is)
    (case l17 => k_is)
    (case c17 => k_is)
    (case k17 => k_is)
    (case a18 => k_is)
    (case l18 => k_is)
    (case c18 => k_is)
    (case k18 => k_is)
    (case a19 => k_is)
    (case l19 => k_is)
    (case c19 => k_is)
    (case k19 => k_is)
    (case a20 => k_is)
    (case l20 => k_is)
    (case c20 => k_is)
    (case k20 => k_is)
    (case a21 => k_is)
    (case l21 => k_is)
    (case c21 => k_is)
    (case k21 => k_is)
    (case a22 => k_is)
    (case l22 => k_is)
    (case c22 => k_is)
    (case k22 => k_is)
    (case a23 => k_is)
    (case l23 => k_is)
    (case c23 => k_is)
    (case k23 => k_is)
    (case zisi => k_is)
    (case zint => k_is)
    (case zbool => k_is)
    (case ztup => k_is)
    (case zlen => k_is)
    (case zenu => k_is)
    (case zmax => k_is)
    (case zsrt => k_is)
    (case zrng => k_is)
    (case zlst => k_is)
    (case zmp7 => k_is)
    (case zmc6 => k_is)
    (case zmk60 => k_is)
