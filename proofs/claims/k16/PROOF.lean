import PyProof.Rows.All
import Wide.All
import OpenK.AllK
import Wide.FinOn
import KE.GoesEnum
import HandS.ForMost
import HandS.Walk
import HandS.Deep
import HandS.TupLe
import HandS.TupAny
import HandS.TupSets
import HandS.SetFor
import HandS.Sort
import HandS.SortRule
import HandS.SortInts
import HandS.IsInst
import HandS.Conv
import HandS.DictTup
import HandS.Flow
import PySem.Challenge.RW_duelwebs_k16_whole_ties_of_heads
set_option Elab.async false
set_option linter.all false
set_option maxRecDepth 100000
set_option maxHeartbeats 4000000
namespace K16
open Classical

/-! ### reaching -/
inductive Rch (A : Int → Int → Prop) (L : List Int) (x : Int) : Int → Prop
  | refl : Rch A L x x
  | step {y z : Int} : Rch A L x y → A y z → z ∈ L → Rch A L x z

section
variable {A A' : Int → Int → Prop} {L L' : List Int} {x y z : Int}
theorem Rch.trans (h : Rch A L x y) (k : Rch A L y z) : Rch A L x z := by
  induction k with
  | refl => exact h
  | step _ a m ih => exact .step ih a m
theorem Rch.mem (hx : x ∈ L) (h : Rch A L x y) : y ∈ L := by
  cases h with
  | refl => exact hx
  | step _ _ m => exact m
theorem Rch.one (a : A x y) (m : y ∈ L) : Rch A L x y := .step .refl a m
theorem Rch.symm (hs : ∀ a b, A a b → A b a) (hx : x ∈ L) (h : Rch A L x y) : Rch A L y x := by
  induction h with
  | refl => exact .refl
  | step h a m ih => exact (Rch.one (hs _ _ a) (h.mem hx)).trans ih
theorem Rch.mono (hA : ∀ a b, A a b → A' a b) (hL : ∀ z ∈ L, z ∈ L') (h : Rch A L x y) : Rch A' L' x y := by
  induction h with
  | refl => exact .refl
  | step _ a m ih => exact .step ih (hA _ _ a) (hL _ m)
/-- one edge more -/
theorem Rch.plus {u v : Int} (hA : ∀ a b, A' a b → A a b ∨ (a = u ∧ b = v) ∨ (a = v ∧ b = u)) (h : Rch A' L x y) :
    Rch A L x y ∨ (Rch A L x u ∧ Rch A L v y) ∨ (Rch A L x v ∧ Rch A L u y) := by
  induction h with
  | refl => exact .inl .refl
  | @step y z _ a m ih =>
    rcases hA _ _ a with a | ⟨rfl, rfl⟩ | ⟨rfl, rfl⟩
    · rcases ih with i | ⟨i, j⟩ | ⟨i, j⟩
      · exact .inl (.step i a m)
      · exact .inr (.inl ⟨i, .step j a m⟩)
      · exact .inr (.inr ⟨i, .step j a m⟩)
    · rcases ih with i | ⟨i, j⟩ | ⟨i, j⟩
      · exact .inr (.inl ⟨i, .refl⟩)
      · exact .inr (.inl ⟨i, .refl⟩)
      · exact .inl i
    · rcases ih with i | ⟨i, j⟩ | ⟨i, j⟩
      · exact .inr (.inr ⟨i, .refl⟩)
      · exact .inl i
      · exact .inr (.inr ⟨i, .refl⟩)
end

/-! ### rising lists -/
def Asc (l : List Int) : Prop := l.Pairwise (· < ·)
theorem Asc.nodup {l : List Int} (h : Asc l) : l.Nodup := by
  refine List.Pairwise.imp ?_ h
  intro a b hab e
  omega
theorem Asc.sub {l m : List Int} (h : Asc m) (s : l.Sublist m) : Asc l := List.Pairwise.sublist s h
theorem asc_ext : ∀ {l m : List Int}, Asc l → Asc m → (∀ x, x ∈ l ↔ x ∈ m) → l = m
  | [], [], _, _, _ => rfl
  | [], b :: m, _, _, h => by have := (h b).mpr List.mem_cons_self; simp at this
  | a :: l, [], _, _, h => by have := (h a).mp List.mem_cons_self; simp at this
  | a :: l, b :: m, hl, hm, h => by
    have hl' := List.pairwise_cons.mp hl
    have hm' := List.pairwise_cons.mp hm
    have e : a = b := by
      rcases List.mem_cons.mp ((h a).mp List.mem_cons_self) with e | e
      · exact e
      · rcases List.mem_cons.mp ((h b).mpr List.mem_cons_self) with k | k
        · exact k.symm
        · have h1 := hm'.1 _ e
          have h2 := hl'.1 _ k
          omega
    subst e
    rw [asc_ext hl'.2 hm'.2 fun x => ?_]
    constructor
    · intro hx
      rcases List.mem_cons.mp ((h x).mp (List.mem_cons_of_mem _ hx)) with e | e
      · have := hl'.1 _ hx
        omega
      · exact e
    · intro hx
      rcases List.mem_cons.mp ((h x).mpr (List.mem_cons_of_mem _ hx)) with e | e
      · have := hm'.1 _ hx
        omega
      · exact e
theorem asc_of_sorted {l : List Int} (h : l.Pairwise (· ≤ ·)) (n : l.Nodup) : Asc l := by
  induction l with
  | nil => exact List.Pairwise.nil
  | cons a l ih =>
    have h' := List.pairwise_cons.mp h
    have n' := List.nodup_cons.mp n
    refine List.pairwise_cons.mpr ⟨fun b hb => ?_, ih h'.2 n'.2⟩
    have := h'.1 b hb
    have ne : a ≠ b := fun e => n'.1 (e ▸ hb)
    omega
/-- fewer, if all of one are of the other -/
theorem nodup_le : ∀ {l m : List Int}, l.Nodup → (∀ x ∈ l, x ∈ m) → l.length ≤ m.length
  | [], _, _, _ => Nat.zero_le _
  | a :: l, m, h, s => by
    have h' := List.nodup_cons.mp h
    have ha := s a List.mem_cons_self
    have := nodup_le (m := m.erase a) h'.2 fun x hx => by
      have ne : x ≠ a := fun e => h'.1 (e ▸ hx)
      exact (List.mem_erase_of_ne ne).mpr (s x (List.mem_cons_of_mem _ hx))
    rw [List.length_erase_of_mem ha] at this
    have : 0 < m.length := List.length_pos_of_mem ha
    simp only [List.length_cons]
    omega

/-! ### parts -/
noncomputable def comp (A : Int → Int → Prop) (L : List Int) (x : Int) : List Int := L.filter fun y => decide (Rch A L x y)
def leader (A : Int → Int → Prop) (L : List Int) (x : Int) : Prop := ∀ y ∈ L, Rch A L x y → x ≤ y
noncomputable def parts (A : Int → Int → Prop) (L : List Int) : List (List Int) := (L.filter fun x => decide (leader A L x)).map (comp A L)
/-- the parts that begin in left -/
noncomputable def prt (A : Int → Int → Prop) (L left : List Int) : List (List Int) := (left.filter fun x => decide (leader A L x)).map (comp A L)
def Closed (A : Int → Int → Prop) (L left : List Int) : Prop := ∀ x ∈ left, ∀ y ∈ L, Rch A L x y → y ∈ left
def Sym (A : Int → Int → Prop) : Prop := ∀ a b, A a b → A b a

section
variable {A : Int → Int → Prop} {L left r : List Int} {x y z : Int}
theorem mem_comp : y ∈ comp A L x ↔ y ∈ L ∧ Rch A L x y := by simp [comp]
theorem comp_asc (hL : Asc L) : Asc (comp A L x) := hL.sub List.filter_sublist
theorem comp_of {l : List Int} (hL : Asc L) (hl : Asc l) (hx : x ∈ L) (h : ∀ y, y ∈ l ↔ Rch A L x y) : l = comp A L x :=
  asc_ext hl (comp_asc hL) fun y => by
    rw [mem_comp, h]
    exact ⟨fun k => ⟨k.mem hx, k⟩, fun k => k.2⟩
theorem closed_next (hs : Sym A) (sub : ∀ y ∈ x :: r, y ∈ L) (c : Closed A L (x :: r)) : Closed A L (r.filter fun y => !decide (Rch A L x y)) := by
  intro y hy z hz h
  simp only [List.mem_filter, Bool.not_eq_true', decide_eq_false_iff_not] at hy ⊢
  have hyL := sub y (List.mem_cons_of_mem _ hy.1)
  have hzl := c y (List.mem_cons_of_mem _ hy.1) z hz h
  have nz : ¬ Rch A L x z := fun k => hy.2 (k.trans (h.symm hs hyL))
  rcases List.mem_cons.mp hzl with e | e
  · subst e
    exact absurd .refl nz
  · exact ⟨e, nz⟩
theorem prt_cons (hs : Sym A) (hL : Asc L) (sub : (x :: r).Sublist L) (c : Closed A L (x :: r)) :
    prt A L (x :: r) = comp A L x :: prt A L (r.filter fun y => !decide (Rch A L x y)) := by
  have hx : x ∈ L := sub.subset List.mem_cons_self
  have hasc := List.pairwise_cons.mp (hL.sub sub)
  have ld : leader A L x := by
    intro y hy h
    rcases List.mem_cons.mp (c x List.mem_cons_self y hy h) with e | e
    · omega
    · have := hasc.1 y e
      omega
  unfold prt
  rw [List.filter_cons_of_pos (by simpa using ld), List.map_cons, List.filter_filter]
  congr 2
  refine List.filter_congr fun y hy => ?_
  by_cases l : leader A L y
  · have : ¬ Rch A L x y := fun h => by
      have h1 := l x hx (h.symm hs hx)
      have h2 := hasc.1 y hy
      omega
    simp [l, this]
  · simp [l]
theorem prt_nil : prt A L [] = [] := rfl
theorem prt_all : prt A L L = parts A L := rfl
theorem closed_all : Closed A L L := fun _ _ _ h _ => h
theorem rch_left (sub : ∀ y ∈ left, y ∈ L) (c : Closed A L left) (hx : x ∈ left) : Rch A left x y ↔ Rch A L x y := by
  constructor
  · exact Rch.mono (fun _ _ a => a) sub
  · intro h
    induction h with
    | refl => exact .refl
    | step h a m ih => exact .step ih a (c x hx _ m (h.step a m))
theorem comp_left (hL : Asc L) (sub : left.Sublist L) (c : Closed A L left) (hx : x ∈ left) : comp A left x = comp A L x := by
  refine asc_ext (comp_asc (hL.sub sub)) (comp_asc hL) fun y => ?_
  rw [mem_comp, mem_comp, rch_left (fun y hy => sub.subset hy) c hx]
  exact ⟨fun h => ⟨sub.subset h.1, h.2⟩, fun h => ⟨c x hx y h.1 h.2, h.2⟩⟩
theorem left_next (sub : ∀ y ∈ x :: r, y ∈ L) : ((x :: r).filter fun y => !decide (y ∈ comp A L x)) = r.filter fun y => !decide (Rch A L x y) := by
  have hx : x ∈ comp A L x := mem_comp.mpr ⟨sub x List.mem_cons_self, .refl⟩
  rw [List.filter_cons_of_neg (by simpa using hx)]
  refine List.filter_congr fun y hy => ?_
  have e : y ∈ comp A L x ↔ Rch A L x y := by
    rw [mem_comp]
    exact ⟨fun h => h.2, fun h => ⟨sub y (List.mem_cons_of_mem _ hy), h⟩⟩
  rw [decide_eq_decide.mpr e]
/-- the least one of a part -/
theorem head_comp (hL : Asc L) (hx : x ∈ L) (l : leader A L x) : ∃ t, comp A L x = x :: t := by
  have hx' : x ∈ comp A L x := mem_comp.mpr ⟨hx, .refl⟩
  have ha := comp_asc (A := A) (x := x) hL
  revert hx' ha
  generalize e : comp A L x = c
  intro hx' ha
  cases c with
  | nil => simp at hx'
  | cons a t =>
    have h1 : a ∈ comp A L x := by rw [e]; exact List.mem_cons_self
    have h2 := l a (mem_comp.mp h1).1 (mem_comp.mp h1).2
    rcases List.mem_cons.mp hx' with k | k
    · exact ⟨t, by rw [k]⟩
    · have := (List.pairwise_cons.mp ha).1 x k
      omega
theorem has_leader (hs : Sym A) (hx : x ∈ L) : ∃ m ∈ L, leader A L m ∧ Rch A L m x := by
  have : ∀ (n : Nat) (x : Int), x ∈ L → (L.filter fun y => decide (y < x)).length ≤ n → ∃ m ∈ L, leader A L m ∧ Rch A L m x := by
    intro n
    induction n with
    | zero =>
      intro x hx h0
      refine ⟨x, hx, fun y hy _ => ?_, .refl⟩
      have e : (L.filter fun y => decide (y < x)) = [] := List.eq_nil_of_length_eq_zero (by omega)
      have := List.filter_eq_nil_iff.mp e y hy
      simp only [decide_eq_true_eq] at this
      omega
    | succ n ih =>
      intro x hx hn
      by_cases l : leader A L x
      · exact ⟨x, hx, l, .refl⟩
      · have ⟨y, hy, h, lt⟩ : ∃ y, y ∈ L ∧ Rch A L x y ∧ y < x := by
          refine byContradiction fun k => l fun y hy h => ?_
          refine byContradiction fun g => k ⟨y, hy, h, by omega⟩
        have hlt : (L.filter fun w => decide (w < y)).length < (L.filter fun w => decide (w < x)).length := by
          have e : (L.filter fun w => decide (w < y)) = (L.filter fun w => decide (w < x)).filter fun w => decide (w < y) := by
            rw [List.filter_filter]
            refine List.filter_congr fun w _ => ?_
            by_cases c : w < y
            · have : w < x := by omega
              simp [c, this]
            · simp [c]
          rw [e]
          refine Nat.lt_of_le_of_ne (List.length_filter_le _ _) fun q => ?_
          have := (List.length_filter_eq_length_iff.mp q) y (by simp [hy, lt])
          simp at this
        obtain ⟨m, hm, lm, hr⟩ := ih y hy (by omega)
        exact ⟨m, hm, lm, hr.trans (h.symm hs hx)⟩
  exact this _ x hx (Nat.le_refl _)
end

/-! ### counting -/
theorem cnt_le {P Q : Int → Bool} : ∀ {L : List Int}, (∀ x ∈ L, P x = true → Q x = true) → (L.filter P).length ≤ (L.filter Q).length
  | [], _ => Nat.le_refl _
  | a :: l, h => by
    have ih := cnt_le (P := P) (Q := Q) (L := l) fun x hx => h x (List.mem_cons_of_mem _ hx)
    have ha := h a List.mem_cons_self
    by_cases p : P a = true
    · rw [List.filter_cons_of_pos p, List.filter_cons_of_pos (ha p)]
      simp only [List.length_cons]
      omega
    · rw [List.filter_cons_of_neg p]
      by_cases q : Q a = true
      · rw [List.filter_cons_of_pos q]
        simp only [List.length_cons]
        omega
      · rw [List.filter_cons_of_neg q]
        exact ih
theorem cnt_one {P Q : Int → Bool} : ∀ {L : List Int}, L.Nodup → (∀ x ∈ L, ∀ y ∈ L, P x = true → ¬ Q x = true → P y = true → ¬ Q y = true → x = y) →
    (L.filter P).length ≤ (L.filter Q).length + 1
  | [], _, _ => by simp
  | a :: l, n, h => by
    have n' := List.nodup_cons.mp n
    by_cases p : P a = true
    · by_cases q : Q a = true
      · have ih := cnt_one (P := P) (Q := Q) (L := l) n'.2 fun x hx y hy => h x (List.mem_cons_of_mem _ hx) y (List.mem_cons_of_mem _ hy)
        rw [List.filter_cons_of_pos p, List.filter_cons_of_pos q]
        simp only [List.length_cons]
        omega
      · have ih := cnt_le (P := P) (Q := Q) (L := l) fun x hx px => byContradiction fun qx =>
          n'.1 ((h a List.mem_cons_self x (List.mem_cons_of_mem _ hx) p q px qx) ▸ hx)
        rw [List.filter_cons_of_pos p, List.filter_cons_of_neg q]
        simp only [List.length_cons]
        omega
    · have ih := cnt_one (P := P) (Q := Q) (L := l) n'.2 fun x hx y hy => h x (List.mem_cons_of_mem _ hx) y (List.mem_cons_of_mem _ hy)
      rw [List.filter_cons_of_neg p]
      by_cases q : Q a = true
      · rw [List.filter_cons_of_pos q]
        simp only [List.length_cons]
        omega
      · rw [List.filter_cons_of_neg q]
        exact ih
theorem cnt_few {P : Int → Bool} {L : List Int} (n : L.Nodup) (h : ∀ x ∈ L, ∀ y ∈ L, P x = true → P y = true → x = y) : (L.filter P).length ≤ 1 := by
  have := cnt_one (P := P) (Q := fun _ => false) n fun x hx y hy px _ py _ => h x hx y hy px py
  have e : L.filter (fun _ => false) = [] := List.filter_eq_nil_iff.mpr (by simp)
  rw [e] at this
  exact this

/-! ### deep parts -/
def numOf (nums : List Int) (x : Int) : Int := nums.getD x.toNat 0
def isDeep (nums : List Int) (p : Int) (part : List Int) : Bool := part.any fun x => decide (numOf nums x < numOf nums p)
theorem isDeep_iff {nums part : List Int} {p : Int} : isDeep nums p part = true ↔ ∃ x ∈ part, numOf nums x < numOf nums p := by
  simp [isDeep]
noncomputable def deepL (A : Int → Int → Prop) (L nums : List Int) (p : Int) : List (List Int) := (parts A L).filter (isDeep nums p)
noncomputable def deepP (A : Int → Int → Prop) (L nums : List Int) (p : Int) (x : Int) : Bool := decide (leader A L x) && isDeep nums p (comp A L x)
section
variable {A A' : Int → Int → Prop} {L nums : List Int} {p x y : Int}
theorem deepL_eq : deepL A L nums p = (L.filter (deepP A L nums p)).map (comp A L) := by
  unfold deepL parts
  rw [List.filter_map, List.filter_filter]
  congr 1
  refine List.filter_congr fun y _ => ?_
  simp only [deepP, Function.comp]
  rw [Bool.and_comm]
theorem deepL_len : (deepL A L nums p).length = (L.filter (deepP A L nums p)).length := by rw [deepL_eq, List.length_map]
theorem deepP_iff : deepP A L nums p x = true ↔ leader A L x ∧ ∃ s ∈ L, Rch A L x s ∧ numOf nums s < numOf nums p := by
  simp only [deepP, Bool.and_eq_true, decide_eq_true_eq, isDeep_iff, mem_comp]
  constructor
  · rintro ⟨h, s, ⟨h1, h2⟩, h3⟩
    exact ⟨h, s, h1, h2, h3⟩
  · rintro ⟨h, s, h1, h2, h3⟩
    exact ⟨h, s, ⟨h1, h2⟩, h3⟩
/-- one edge more: at most one deep part less -/
theorem deep_plus {u v : Int} (hs : Sym A) (hL : Asc L) (h0 : ∀ a b, A a b → A' a b) (hA : ∀ a b, A' a b → A a b ∨ (a = u ∧ b = v) ∨ (a = v ∧ b = u)) :
    (deepL A L nums p).length ≤ (deepL A' L nums p).length + 1 := by
  rw [deepL_len, deepL_len]
  refine cnt_one hL.nodup fun x hx y hy px qx py qy => ?_
  have key : ∀ x ∈ L, deepP A L nums p x = true → ¬ deepP A' L nums p x = true → leader A L x ∧ ∃ x' ∈ L, x' < x ∧ ((Rch A L x u ∧ Rch A L v x') ∨ (Rch A L x v ∧ Rch A L u x')) := by
    intro x hx px qx
    obtain ⟨l, s, hsL, hr, hn⟩ := deepP_iff.mp px
    have nl : ¬ leader A' L x := fun k => qx (deepP_iff.mpr ⟨k, s, hsL, hr.mono h0 (fun _ h => h), hn⟩)
    have ⟨x', hx', h', lt⟩ : ∃ y, y ∈ L ∧ Rch A' L x y ∧ y < x := by
      refine byContradiction fun k => nl fun y hy h => ?_
      refine byContradiction fun g => k ⟨y, hy, h, by omega⟩
    refine ⟨l, x', hx', lt, ?_⟩
    rcases h'.plus hA with k | k | k
    · have := l x' hx' k
      omega
    · exact .inl k
    · exact .inr k
  obtain ⟨lx, x', hx', ltx, cx⟩ := key x hx px qx
  obtain ⟨ly, y', hy', lty, cy⟩ := key y hy py qy
  have same : Rch A L x y → x = y := fun h => by
    have h1 := lx y hy h
    have h2 := ly x hx (h.symm hs hx)
    omega
  rcases cx with ⟨a1, a2⟩ | ⟨a1, a2⟩ <;> rcases cy with ⟨b1, b2⟩ | ⟨b1, b2⟩
  · exact same (a1.trans (b1.symm hs hy))
  · have h1 := ly x' hx' (b1.trans a2)
    have h2 := lx y' hy' (a1.trans b2)
    omega
  · have h1 := ly x' hx' (b1.trans a2)
    have h2 := lx y' hy' (a1.trans b2)
    omega
  · exact same (a1.trans (b1.symm hs hy))
end

/-! ### ties -/
def adj (ts : List (Int × Int)) (a b : Int) : Prop := (a, b) ∈ ts ∨ (b, a) ∈ ts
theorem adj_sym (ts : List (Int × Int)) : Sym (adj ts) := fun _ _ h => h.symm
theorem adj_congr {ts us : List (Int × Int)} (h : ∀ t, t ∈ ts ↔ t ∈ us) : adj ts = adj us := by
  funext a b
  exact propext (by simp only [adj, h])
theorem adj_app_iff {ts us : List (Int × Int)} {a b : Int} : adj (ts ++ us) a b ↔ adj ts a b ∨ adj us a b := by
  simp only [adj, List.mem_append]
  constructor
  · rintro ((h | h) | (h | h))
    · exact .inl (.inl h)
    · exact .inr (.inl h)
    · exact .inl (.inr h)
    · exact .inr (.inr h)
  · rintro ((h | h) | (h | h))
    · exact .inl (.inl h)
    · exact .inr (.inl h)
    · exact .inl (.inr h)
    · exact .inr (.inr h)
theorem deep_more {L nums : List Int} {p : Int} (hL : Asc L) : ∀ (us ts : List (Int × Int)), (deepL (adj ts) L nums p).length ≤ (deepL (adj (ts ++ us)) L nums p).length + us.length
  | [], ts => by simp
  | t :: us, ts => by
    have h1 : (deepL (adj ts) L nums p).length ≤ (deepL (adj (ts ++ [t])) L nums p).length + 1 := by
      refine deep_plus (u := t.1) (v := t.2) (adj_sym ts) hL (fun a b h => adj_app_iff.mpr (.inl h)) fun a b h => ?_
      rcases adj_app_iff.mp h with h | h
      · exact .inl h
      · right
        rcases h with h | h
        · have e := List.mem_singleton.mp h
          subst e
          exact .inl ⟨rfl, rfl⟩
        · have e := List.mem_singleton.mp h
          subst e
          exact .inr ⟨rfl, rfl⟩
    have h2 := deep_more (nums := nums) (p := p) hL us (ts ++ [t])
    rw [List.append_assoc, List.singleton_append] at h2
    simp only [List.length_cons]
    omega

/-! ### the ties that are told -/
def leadOf (part : List Int) : Int := part.headD 0
def told (ds : List (List Int)) : List (Int × Int) := ds.tail.map fun d => (leadOf (ds.headD []), leadOf d)
section
variable {ts : List (Int × Int)} {L nums : List Int} {p : Int}
theorem lead_comp {A : Int → Int → Prop} {x : Int} (hL : Asc L) (hx : x ∈ L) (l : leader A L x) : leadOf (comp A L x) = x := by
  obtain ⟨t, e⟩ := head_comp hL hx l
  rw [e]
  rfl
theorem map_lead {A : Int → Int → Prop} {q : List Int} (hL : Asc L) (hq : ∀ x ∈ q, x ∈ L ∧ leader A L x) : (q.map (comp A L)).map leadOf = q := by
  rw [List.map_map]
  conv => rhs; rw [← List.map_id q]
  refine List.map_congr_left fun x hx => ?_
  exact lead_comp hL (hq x hx).1 (hq x hx).2
/-- the leaders of the deep parts -/
noncomputable def lds (ts : List (Int × Int)) (L nums : List Int) (p : Int) : List Int := L.filter (deepP (adj ts) L nums p)
theorem mem_lds {x : Int} : x ∈ lds ts L nums p ↔ x ∈ L ∧ leader (adj ts) L x ∧ ∃ s ∈ L, Rch (adj ts) L x s ∧ numOf nums s < numOf nums p := by
  unfold lds
  rw [List.mem_filter, deepP_iff]
theorem deep_lds : deepL (adj ts) L nums p = (lds ts L nums p).map (comp (adj ts) L) := deepL_eq
theorem lds_asc (hL : Asc L) : Asc (lds ts L nums p) := hL.sub List.filter_sublist
theorem lds_of_deep (hL : Asc L) : (deepL (adj ts) L nums p).map leadOf = lds ts L nums p := by
  rw [deep_lds]
  exact map_lead hL fun x hx => ⟨(mem_lds.mp hx).1, (mem_lds.mp hx).2.1⟩
theorem told_eq (hL : Asc L) : told (deepL (adj ts) L nums p) = (lds ts L nums p).tail.map fun x => ((lds ts L nums p).headD 0, x) := by
  rw [← lds_of_deep hL]
  unfold told
  cases deepL (adj ts) L nums p with
  | nil => rfl
  | cons d ds =>
    show ds.map _ = (ds.map leadOf).map _
    rw [List.map_map]
    rfl
theorem told_len : (told (deepL (adj ts) L nums p)).length = (deepL (adj ts) L nums p).length - 1 := by
  unfold told
  rw [List.length_map, List.length_tail]
def pairLt (a b : Int × Int) : Prop := a.1 < b.1 ∨ (a.1 = b.1 ∧ a.2 < b.2)
theorem told_asc (hL : Asc L) : (told (deepL (adj ts) L nums p)).Pairwise pairLt := by
  rw [told_eq hL]
  have h : Asc (lds ts L nums p).tail := (lds_asc hL).sub (List.tail_sublist _)
  refine List.pairwise_map.mpr (List.Pairwise.imp ?_ h)
  intro a b hab
  exact .inr ⟨rfl, hab⟩
theorem told_mem (hL : Asc L) {t : Int × Int} (h : t ∈ told (deepL (adj ts) L nums p)) : t.1 < t.2 ∧ t.1 ∈ L ∧ t.2 ∈ L ∧ t ∉ ts := by
  rw [told_eq hL] at h
  obtain ⟨x, hx, rfl⟩ := List.mem_map.mp h
  have ha := lds_asc (ts := ts) (nums := nums) (p := p) hL
  have hm : ∀ y ∈ lds ts L nums p, y ∈ L ∧ leader (adj ts) L y := fun y hy => ⟨(mem_lds.mp hy).1, (mem_lds.mp hy).2.1⟩
  revert hx ha hm
  generalize lds ts L nums p = q
  intro hx ha hm
  cases q with
  | nil => simp at hx
  | cons a r =>
    have hxr : x ∈ r := hx
    have lt := (List.pairwise_cons.mp ha).1 x hxr
    have m1 := hm a List.mem_cons_self
    have m2 := hm x (List.mem_cons_of_mem _ hxr)
    refine ⟨lt, m1.1, m2.1, fun k => ?_⟩
    have : x ≤ a := m2.2 a m1.1 (Rch.one (.inr k) m1.1)
    show False
    have lt' : a < x := lt
    omega
/-- with the told ties there is at most one deep part -/
theorem told_deep (hL : Asc L) : (deepL (adj (ts ++ told (deepL (adj ts) L nums p))) L nums p).length ≤ 1 := by
  generalize hT : told (deepL (adj ts) L nums p) = T
  rw [told_eq hL] at hT
  rw [deepL_len]
  have up : ∀ a b, adj ts a b → adj (ts ++ T) a b := fun a b h => adj_app_iff.mpr (.inl h)
  have key : ∀ x ∈ L, deepP (adj (ts ++ T)) L nums p x = true → leader (adj (ts ++ T)) L x ∧ Rch (adj (ts ++ T)) L x ((lds ts L nums p).headD 0) := by
    intro x hx px
    obtain ⟨l, s, hs, hr, hn⟩ := deepP_iff.mp px
    refine ⟨l, hr.trans ?_⟩
    obtain ⟨m, hm, lm, hms⟩ := has_leader (adj_sym ts) hs
    have mq : m ∈ lds ts L nums p := mem_lds.mpr ⟨hm, lm, s, hs, hms, hn⟩
    have sm : Rch (adj (ts ++ T)) L s m := (hms.symm (adj_sym ts) hm).mono up fun _ h => h
    refine sm.trans ?_
    have hq : ∀ y ∈ lds ts L nums p, y ∈ L := fun y hy => (mem_lds.mp hy).1
    revert mq hT hq
    generalize lds ts L nums p = q
    intro hT mq hq
    cases q with
    | nil => simp at mq
    | cons a r =>
      rcases List.mem_cons.mp mq with e | e
      · rw [e]
        exact .refl
      · refine Rch.one (adj_app_iff.mpr (.inr (.inr ?_))) (hq a List.mem_cons_self)
        rw [← hT]
        exact List.mem_map.mpr ⟨m, e, rfl⟩
  refine cnt_few hL.nodup fun x hx y hy px py => ?_
  obtain ⟨lx, rx⟩ := key x hx px
  obtain ⟨ly, ry⟩ := key y hy py
  have sy := adj_sym (ts ++ T)
  have h1 := lx y hy (rx.trans (ry.symm sy hy))
  have h2 := ly x hx (ry.trans (rx.symm sy hx))
  omega
end

/-! ### all persons -/
def rgI (lo : Int) (n : Nat) : List Int := (List.range n).map fun i : Nat => lo + (i : Int)
theorem mem_rgI {lo x : Int} {n : Nat} : x ∈ rgI lo n ↔ lo ≤ x ∧ x < lo + n := by
  simp only [rgI, List.mem_map, List.mem_range]
  constructor
  · rintro ⟨i, hi, rfl⟩
    omega
  · rintro ⟨h1, h2⟩
    exact ⟨(x - lo).toNat, by omega, by omega⟩
theorem rgI_len {lo : Int} {n : Nat} : (rgI lo n).length = n := by simp [rgI]
theorem rgI_get {lo : Int} {n i : Nat} (h : i < n) : (rgI lo n)[i]? = some (lo + (i : Int)) := by
  simp [rgI, List.getElem?_range, h]
theorem rgI_asc {lo : Int} {n : Nat} : Asc (rgI lo n) := by
  unfold Asc rgI
  refine List.pairwise_map.mpr (List.Pairwise.imp ?_ List.pairwise_lt_range)
  intro a b h
  omega
def evb (n : Nat) : List Int := rgI 0 n
theorem mem_evb {n : Nat} {x : Int} : x ∈ evb n ↔ 0 ≤ x ∧ x < n := by
  unfold evb
  rw [mem_rgI]
  omega
theorem evb_asc {n : Nat} : Asc (evb n) := rgI_asc
theorem evb_len {n : Nat} : (evb n).length = n := rgI_len
noncomputable def oth (n : Nat) (p : Int) : List Int := (evb n).filter fun x => !decide (x ∈ [p])
theorem mem_oth {n : Nat} {p x : Int} : x ∈ oth n p ↔ (0 ≤ x ∧ x < n) ∧ x ≠ p := by
  unfold oth
  rw [List.mem_filter, mem_evb]
  simp
theorem oth_asc {n : Nat} {p : Int} : Asc (oth n p) := evb_asc.sub List.filter_sublist

def Conn (A : Int → Int → Prop) (n : Nat) : Prop := ∀ x ∈ evb n, ∀ y ∈ evb n, Rch A (evb n) x y
section
variable {A : Int → Int → Prop} {n : Nat} {p x : Int}
theorem conn_of (hs : Sym A) (h : ∀ r : Int, 1 ≤ r → r < n → ∃ q, 0 ≤ q ∧ q < r ∧ A q r) : Conn A n := by
  have up : ∀ (k : Nat) (x : Int), x ∈ evb n → x.toNat ≤ k → Rch A (evb n) 0 x := by
    intro k
    induction k with
    | zero =>
      intro x hx h0
      have := mem_evb.mp hx
      have e : x = 0 := by omega
      rw [e]
      exact .refl
    | succ k ih =>
      intro x hx hk
      have hb := mem_evb.mp hx
      by_cases h1 : 1 ≤ x
      · obtain ⟨q, q0, q1, q2⟩ := h x h1 hb.2
        exact .step (ih q (mem_evb.mpr ⟨q0, by omega⟩) (by omega)) q2 hx
      · exact ih x hx (by omega)
  intro x hx y hy
  have h0 : (0 : Int) ∈ evb n := by
    have := mem_evb.mp hx
    exact mem_evb.mpr ⟨by omega, by omega⟩
  exact ((up _ x hx (Nat.le_refl _)).symm hs h0).trans (up _ y hy (Nat.le_refl _))
theorem conn_mono {A' : Int → Int → Prop} (h : ∀ a b, A a b → A' a b) (c : Conn A n) : Conn A' n := fun x hx y hy => (c x hx y hy).mono h fun _ k => k
theorem comp_conn (c : Conn A n) (hx : x ∈ evb n) : comp A (evb n) x = evb n := by
  unfold comp
  refine List.filter_eq_self.mpr fun y hy => ?_
  simpa using c x hx y hy
theorem to_border (c : Conn A n) (hp : p ∈ evb n) (hx : x ∈ oth n p) : ∃ z, Rch A (oth n p) x z ∧ A z p := by
  have hxe : x ∈ evb n := mem_evb.mpr (mem_oth.mp hx).1
  have key : ∀ y, Rch A (evb n) x y → Rch A (oth n p) x y ∨ ∃ z, Rch A (oth n p) x z ∧ A z p := by
    intro y h
    induction h with
    | refl => exact .inl .refl
    | @step y w _ a m ih =>
      rcases ih with ih | ih
      · by_cases e : w = p
        · subst e
          exact .inr ⟨y, ih, a⟩
        · exact .inl (.step ih a (mem_oth.mpr ⟨mem_evb.mp m, e⟩))
      · exact .inr ih
  rcases key p (c x hxe p hp) with h | h
  · have := mem_oth.mp (h.mem hx)
    exact absurd rfl this.2
  · exact h
theorem conn_of_parts (hs : Sym A) (h : (parts A (evb n)).length ≤ 1) : Conn A n := by
  intro x hx y hy
  obtain ⟨m, hm, lm, rm⟩ := has_leader hs hx
  obtain ⟨k, hk, lk, rk⟩ := has_leader hs hy
  unfold parts at h
  rw [List.length_map] at h
  have h1 : m ∈ (evb n).filter fun x => decide (leader A (evb n) x) := by simp [hm, lm]
  have h2 : k ∈ (evb n).filter fun x => decide (leader A (evb n) x) := by simp [hk, lk]
  have e : m = k := by
    revert h h1 h2
    generalize ((evb n).filter fun x => decide (leader A (evb n) x)) = l
    intro h h1 h2
    match l, h with
    | [], _ => simp at h1
    | [a], _ =>
      rw [List.mem_singleton.mp h1, List.mem_singleton.mp h2]
    | a :: b :: l, h => simp at h
  subst e
  exact (rm.symm hs hm).trans rk
end

/-! ### the fewest ties, by trying -/
noncomputable def nextLots (free : List (Int × Int)) (lots : List (List (Int × Int))) : List (List (Int × Int)) :=
  lots.flatMap fun lot => (free.filter fun t => decide (lot = [] ∨ pairLt (lot.getLastD (0, 0)) t)).map fun t => lot ++ [t]
noncomputable def dueStep (dl : List (Int × Int) → Nat) (k : Int) (d : Option Int) (lot : List (Int × Int)) : Option Int := if d = none ∧ dl lot ≤ 1 then some k else d
section
variable {dl : List (Int × Int) → Nat} {free : List (Int × Int)}
theorem due_some {k v : Int} : ∀ lots : List (List (Int × Int)), lots.foldl (dueStep dl k) (some v) = some v
  | [] => rfl
  | l :: ls => by
    rw [List.foldl_cons]
    have e : dueStep dl k (some v) l = some v := by simp [dueStep]
    rw [e]
    exact due_some ls
theorem due_yes {k : Int} : ∀ lots : List (List (Int × Int)), (∃ l ∈ lots, dl l ≤ 1) → lots.foldl (dueStep dl k) none = some k
  | [], h => by obtain ⟨_, h, _⟩ := h; simp at h
  | l :: ls, h => by
    rw [List.foldl_cons]
    by_cases c : dl l ≤ 1
    · have e : dueStep dl k none l = some k := by simp [dueStep, c]
      rw [e]
      exact due_some ls
    · have e : dueStep dl k none l = none := by simp [dueStep, c]
      rw [e]
      refine due_yes ls ?_
      obtain ⟨m, hm, h1⟩ := h
      rcases List.mem_cons.mp hm with q | q
      · subst q
        exact absurd h1 c
      · exact ⟨m, q, h1⟩
theorem due_no {k : Int} : ∀ lots : List (List (Int × Int)), (∀ l ∈ lots, ¬ dl l ≤ 1) → lots.foldl (dueStep dl k) none = none
  | [], _ => rfl
  | l :: ls, h => by
    rw [List.foldl_cons]
    have c := h l List.mem_cons_self
    have e : dueStep dl k none l = none := by simp [dueStep, c]
    rw [e]
    exact due_no ls fun m hm => h m (List.mem_cons_of_mem _ hm)
theorem mem_nextLots {lots : List (List (Int × Int))} {m : List (Int × Int)} :
    m ∈ nextLots free lots ↔ ∃ lot ∈ lots, ∃ t ∈ free, (lot = [] ∨ pairLt (lot.getLastD (0, 0)) t) ∧ m = lot ++ [t] := by
  simp only [nextLots, List.mem_flatMap, List.mem_map, List.mem_filter, decide_eq_true_eq]
  constructor
  · rintro ⟨lot, h1, t, ⟨h2, h3⟩, h4⟩
    exact ⟨lot, h1, t, h2, h3, h4.symm⟩
  · rintro ⟨lot, h1, t, h2, h3, h4⟩
    exact ⟨lot, h1, t, ⟨h2, h3⟩, h4.symm⟩
noncomputable def lots0 : List (List (Int × Int)) := [[]]
noncomputable def lots1 (free : List (Int × Int)) : List (List (Int × Int)) := nextLots free lots0
noncomputable def lots2 (free : List (Int × Int)) : List (List (Int × Int)) := nextLots free (lots1 free)
noncomputable def due3 (dl : List (Int × Int) → Nat) (free : List (Int × Int)) : Option Int :=
  (lots2 free).foldl (dueStep dl 2) ((lots1 free).foldl (dueStep dl 1) (lots0.foldl (dueStep dl 0) none))
theorem len1 {m : List (Int × Int)} (h : m ∈ lots1 free) : m.length = 1 ∧ ∀ t ∈ m, t ∈ free := by
  obtain ⟨l, hl, t, ht, _, rfl⟩ := mem_nextLots.mp h
  have e : l = [] := by simpa [lots0] using hl
  subst e
  simpa using ht
theorem len2 {m : List (Int × Int)} (h : m ∈ lots2 free) : m.length = 2 ∧ ∀ t ∈ m, t ∈ free := by
  obtain ⟨l, hl, t, ht, _, rfl⟩ := mem_nextLots.mp h
  obtain ⟨h1, h2⟩ := len1 hl
  refine ⟨by simp [h1], fun s hs => ?_⟩
  rcases List.mem_append.mp hs with k | k
  · exact h2 s k
  · rw [List.mem_singleton.mp k]
    exact ht
theorem in1 {t : Int × Int} (h : t ∈ free) : [t] ∈ lots1 free := mem_nextLots.mpr ⟨[], by simp [lots0], t, h, .inl rfl, rfl⟩
theorem in2 {t u : Int × Int} (h : t ∈ free) (h' : u ∈ free) (k : pairLt t u) : [t, u] ∈ lots2 free := mem_nextLots.mpr ⟨[t], in1 h, u, h', .inr k, rfl⟩
theorem due3_eq {D : Nat} {T : List (Int × Int)} (low : ∀ lot : List (Int × Int), D ≤ dl lot + lot.length) (hT : T.length = D - 1) (hf : ∀ t ∈ T, t ∈ free) (ha : T.Pairwise pairLt) (hd : dl T ≤ 1) :
    due3 dl free = if D - 1 ≤ 2 then some ((D - 1 : Nat) : Int) else none := by
  unfold due3
  by_cases c0 : D - 1 = 0
  · have e : T = [] := List.eq_nil_of_length_eq_zero (by omega)
    subst e
    rw [due_yes lots0 ⟨[], by simp [lots0], hd⟩, due_some, due_some, c0]
    rfl
  · rw [due_no lots0 fun l hl => by
      have e : l = [] := by simpa [lots0] using hl
      subst e
      have := low []
      simp only [List.length_nil] at this
      omega]
    by_cases c1 : D - 1 = 1
    · match T, hT with
      | [], hT => simp at hT; omega
      | [t], _ =>
        rw [due_yes (lots1 free) ⟨[t], in1 (hf t (by simp)), hd⟩, due_some, c1]
        rfl
      | a :: b :: r, hT => simp at hT; omega
    · rw [due_no (lots1 free) fun l hl => by
        have := low l
        have := (len1 hl).1
        omega]
      by_cases c2 : D - 1 = 2
      · match T, hT with
        | [], hT => simp at hT; omega
        | [t], hT => simp at hT; omega
        | [a, b], _ =>
          have k := (List.pairwise_cons.mp ha).1 b (by simp)
          rw [due_yes (lots2 free) ⟨[a, b], in2 (hf a (by simp)) (hf b (by simp)) k, hd⟩, c2]
          rfl
        | a :: b :: c :: r, hT => simp at hT; omega
      · rw [due_no (lots2 free) fun l hl => by
          have := low l
          have := (len2 hl).1
          omega]
        rw [if_neg (by omega)]
end
noncomputable def freeRow (ts : List (Int × Int)) (n : Nat) (a : Int) : List (Int × Int) := ((rgI (a + 1) (n - (a + 1)).toNat).filter fun b => !decide ((a, b) ∈ ts)).map fun b => (a, b)
noncomputable def freeS (ts : List (Int × Int)) (n : Nat) : List (Int × Int) := (evb n).flatMap (freeRow ts n)
theorem mem_free {ts : List (Int × Int)} {n : Nat} {t : Int × Int} : t ∈ freeS ts n ↔ 0 ≤ t.1 ∧ t.1 < t.2 ∧ t.2 < n ∧ t ∉ ts := by
  obtain ⟨a, b⟩ := t
  simp only [freeS, freeRow, List.mem_flatMap, List.mem_map, List.mem_filter, mem_evb, mem_rgI, Bool.not_eq_true', decide_eq_false_iff_not, Prod.mk.injEq]
  constructor
  · rintro ⟨x, hx, y, ⟨hy, hn⟩, rfl, rfl⟩
    refine ⟨by omega, by omega, by omega, hn⟩
  · rintro ⟨h1, h2, h3, h4⟩
    exact ⟨a, by omega, b, ⟨by omega, h4⟩, rfl, rfl⟩
/-- what the law's three rounds find -/
theorem due_is {ts : List (Int × Int)} {n : Nat} {nums : List Int} {p : Int} :
    due3 (fun lot => (deepL (adj (ts ++ lot)) (oth n p) nums p).length) (freeS ts n) =
      if (deepL (adj ts) (oth n p) nums p).length - 1 ≤ 2 then some (((deepL (adj ts) (oth n p) nums p).length - 1 : Nat) : Int) else none := by
  refine due3_eq (T := told (deepL (adj ts) (oth n p) nums p)) (fun lot => deep_more oth_asc lot ts) told_len (fun t ht => ?_) (told_asc oth_asc) (told_deep oth_asc)
  obtain ⟨h1, h2, h3, h4⟩ := told_mem oth_asc ht
  have k1 := mem_oth.mp h2
  have k2 := mem_oth.mp h3
  exact mem_free.mpr ⟨k1.1.1, h1, k2.1.2, h4⟩

/-! ### the search by a stack -/
structure Dfs (A : Int → Int → Prop) (L : List Int) (p : Int) (found edge : List Int) : Prop where
  nd : found.Nodup
  sub : ∀ y ∈ edge, y ∈ found
  rch : ∀ y ∈ found, Rch A L p y
  start : p ∈ found
  cl : ∀ y ∈ found, y ∉ edge → ∀ z ∈ L, A y z → z ∈ found
structure DfsI (A : Int → Int → Prop) (L : List Int) (p here : Int) (done found edge : List Int) : Prop where
  nd : found.Nodup
  sub : ∀ y ∈ edge, y ∈ found
  at_ : here ∈ found
  rch : ∀ y ∈ found, Rch A L p y
  start : p ∈ found
  cl : ∀ y ∈ found, y ∉ edge → y ≠ here → ∀ z ∈ L, A y z → z ∈ found
  dn : ∀ z ∈ done, z ∈ L → z ∈ found
def meas (L found edge : List Int) : Nat := 2 * (L.length - found.length) + edge.length
section
variable {A : Int → Int → Prop} {L found edge done nbs : List Int} {p here z : Int}
theorem Dfs.begin : Dfs A L p [p] [p] := ⟨by simp, fun _ h => h, fun y h => by rw [List.mem_singleton.mp h]; exact .refl, by simp, fun y h k => absurd h k⟩
theorem Dfs.pop (d : Dfs A L p found (edge ++ [here])) : DfsI A L p here [] found edge :=
  ⟨d.nd, fun y h => d.sub y (List.mem_append_left _ h), d.sub here (by simp), d.rch, d.start,
    fun y hy h1 h2 => d.cl y hy fun k => by
      rcases List.mem_append.mp k with k | k
      · exact h1 k
      · exact h2 (List.mem_singleton.mp k), fun _ h => by simp at h⟩
theorem DfsI.skip (d : DfsI A L p here done found edge) (h : z ∈ L → z ∈ found) : DfsI A L p here (done ++ [z]) found edge :=
  ⟨d.nd, d.sub, d.at_, d.rch, d.start, d.cl, fun w hw hL => by
      rcases List.mem_append.mp hw with k | k
      · exact d.dn w k hL
      · rw [List.mem_singleton.mp k] at hL ⊢
        exact h hL⟩
theorem DfsI.take (d : DfsI A L p here done found edge) (hz : z ∈ L) (nz : z ∉ found) (a : A here z) : DfsI A L p here (done ++ [z]) (found ++ [z]) (edge ++ [z]) where
  nd := List.nodup_append.mpr ⟨d.nd, by simp, fun x hx y hy e => nz (by rw [List.mem_singleton.mp hy] at e; exact e ▸ hx)⟩
  sub := fun y hy => by
    rcases List.mem_append.mp hy with k | k
    · exact List.mem_append_left _ (d.sub y k)
    · exact List.mem_append_right _ k
  at_ := List.mem_append_left _ d.at_
  rch := fun y hy => by
    rcases List.mem_append.mp hy with k | k
    · exact d.rch y k
    · rw [List.mem_singleton.mp k]
      exact (d.rch here d.at_).step a hz
  start := List.mem_append_left _ d.start
  cl := fun y hy h1 h2 w hw aw => by
    have ny : y ∉ edge := fun k => h1 (List.mem_append_left _ k)
    have hf : y ∈ found := by
      rcases List.mem_append.mp hy with k | k
      · exact k
      · exact absurd (List.mem_append_right _ k) h1
    exact List.mem_append_left _ (d.cl y hf ny h2 w hw aw)
  dn := fun w hw hL => by
    rcases List.mem_append.mp hw with k | k
    · exact List.mem_append_left _ (d.dn w k hL)
    · exact List.mem_append_right _ k
theorem DfsI.fin (d : DfsI A L p here nbs found edge) (h : ∀ z, A here z → z ∈ nbs) : Dfs A L p found edge :=
  ⟨d.nd, d.sub, d.rch, d.start, fun y hy h1 z hz a => by
    by_cases e : y = here
    · subst e
      exact d.dn z (h z a) hz
    · exact d.cl y hy h1 e z hz a⟩
theorem Dfs.all (d : Dfs A L p found []) (y : Int) : y ∈ found ↔ Rch A L p y := by
  refine ⟨d.rch y, fun h => ?_⟩
  induction h with
  | refl => exact d.start
  | step _ a m ih => exact d.cl _ ih (by simp) _ m a
theorem DfsI.len (d : DfsI A L p here done found edge) (hp : p ∈ L) : found.length ≤ L.length := nodup_le d.nd fun x hx => (d.rch x hx).mem hp
theorem Dfs.len (d : Dfs A L p found edge) (hp : p ∈ L) : found.length ≤ L.length := nodup_le d.nd fun x hx => (d.rch x hx).mem hp
theorem meas_pop : meas L found edge + 1 = meas L found (edge ++ [here]) := by simp [meas]; omega
theorem meas_take (h : (found ++ [z]).length ≤ L.length) : meas L (found ++ [z]) (edge ++ [z]) ≤ meas L found edge := by
  simp only [meas, List.length_append, List.length_singleton] at h ⊢
  omega
/-- sorted, the found ones are the part -/
theorem found_comp {l : List Int} (d : Dfs A L p found []) (hp : p ∈ L) (hL : Asc L) (hperm : l.Perm found) (hs : l.Pairwise (· ≤ ·)) : l = comp A L p :=
  comp_of hL (asc_of_sorted hs (hperm.nodup_iff.mpr d.nd)) hp fun y => by rw [hperm.mem_iff]; exact d.all y
end

/-! ### the search by passes -/
noncomputable def passT (lot some_ : List Int) (t : Int × Int) : List Int :=
  if t.1 ∈ lot ∧ t.2 ∈ lot ∧ ¬ (t.1 ∈ some_ ↔ t.2 ∈ some_) then some_ ++ [if t.1 ∈ some_ then t.2 else t.1] else some_
noncomputable def pass (lot : List Int) (ts : List (Int × Int)) (some_ : List Int) : List Int := ts.foldl (passT lot) some_
def Full (lot : List Int) (ts : List (Int × Int)) (some_ : List Int) : Prop := ∀ t ∈ ts, t.1 ∈ lot → t.2 ∈ lot → (t.1 ∈ some_ ↔ t.2 ∈ some_)
structure Part (ts : List (Int × Int)) (lot : List Int) (x : Int) (some_ : List Int) : Prop where
  nd : some_.Nodup
  start : x ∈ some_
  rch : ∀ y ∈ some_, Rch (adj ts) lot x y
section
variable {ts us : List (Int × Int)} {lot l : List Int} {x : Int} {t : Int × Int}
theorem Part.begin : Part ts lot x [x] := ⟨by simp, by simp, fun y h => by rw [List.mem_singleton.mp h]; exact .refl⟩
theorem Part.turn (d : Part ts lot x l) (ht : t ∈ ts) : Part ts lot x (passT lot l t) := by
  unfold passT
  split
  · rename_i h
    obtain ⟨h1, h2, h3⟩ := h
    by_cases c : t.1 ∈ l
    · rw [if_pos c]
      have n2 : t.2 ∉ l := fun k => h3 ⟨fun _ => k, fun _ => c⟩
      refine ⟨List.nodup_append.mpr ⟨d.nd, by simp, fun a ha b hb e => n2 (by rw [List.mem_singleton.mp hb] at e; exact e ▸ ha)⟩, List.mem_append_left _ d.start, fun y hy => ?_⟩
      rcases List.mem_append.mp hy with k | k
      · exact d.rch y k
      · rw [List.mem_singleton.mp k]
        exact (d.rch _ c).step (.inl ht) h2
    · rw [if_neg c]
      have c2 : t.2 ∈ l := byContradiction fun k => h3 ⟨fun q => absurd q c, fun q => absurd q k⟩
      refine ⟨List.nodup_append.mpr ⟨d.nd, by simp, fun a ha b hb e => c (by rw [List.mem_singleton.mp hb] at e; exact e ▸ ha)⟩, List.mem_append_left _ d.start, fun y hy => ?_⟩
      rcases List.mem_append.mp hy with k | k
      · exact d.rch y k
      · rw [List.mem_singleton.mp k]
        exact (d.rch _ c2).step (.inr ht) h1
  · exact d
theorem passT_len : l.length ≤ (passT lot l t).length := by
  unfold passT
  split
  · simp
  · exact Nat.le_refl _
theorem pass_len : ∀ (us : List (Int × Int)) (l : List Int), l.length ≤ (pass lot us l).length
  | [], _ => Nat.le_refl _
  | t :: us, l => Nat.le_trans passT_len (pass_len us (passT lot l t))
theorem pass_full : ∀ (us : List (Int × Int)) (l : List Int), Full lot us l → pass lot us l = l
  | [], _, _ => rfl
  | t :: us, l, h => by
    have e : passT lot l t = l := by
      unfold passT
      rw [if_neg]
      rintro ⟨h1, h2, h3⟩
      exact h3 (h t List.mem_cons_self h1 h2)
    show pass lot us (passT lot l t) = l
    rw [e]
    exact pass_full us l fun t ht => h t (List.mem_cons_of_mem _ ht)
theorem pass_grow : ∀ (us : List (Int × Int)) (l : List Int), ¬ Full lot us l → l.length + 1 ≤ (pass lot us l).length
  | [], _, h => absurd (fun _ h => by simp at h) h
  | t :: us, l, h => by
    show _ ≤ (pass lot us (passT lot l t)).length
    by_cases c : t.1 ∈ lot ∧ t.2 ∈ lot ∧ ¬ (t.1 ∈ l ↔ t.2 ∈ l)
    · have e : (passT lot l t).length = l.length + 1 := by
        unfold passT
        rw [if_pos c]
        simp
      have := pass_len (lot := lot) us (passT lot l t)
      omega
    · have e : passT lot l t = l := by
        unfold passT
        rw [if_neg c]
      rw [e]
      refine pass_grow us l fun k => h fun s hs h1 h2 => ?_
      rcases List.mem_cons.mp hs with q | q
      · subst q
        exact byContradiction fun g => c ⟨h1, h2, g⟩
      · exact k s q h1 h2
theorem Part.len (d : Part ts lot x l) (hx : x ∈ lot) : l.length ≤ lot.length := nodup_le d.nd fun y hy => (d.rch y hy).mem hx
theorem Part.all (d : Part ts lot x l) (f : Full lot ts l) (hx : x ∈ lot) (y : Int) : y ∈ l ↔ Rch (adj ts) lot x y := by
  refine ⟨d.rch y, fun h => ?_⟩
  induction h with
  | refl => exact d.start
  | step h a m ih =>
    rcases a with a | a
    · exact (f _ a (h.mem hx) m).mp ih
    · exact (f _ a m (h.mem hx)).mpr ih
/-- i passes behind: full, or i more -/
def Grown (ts : List (Int × Int)) (lot l : List Int) (i : Nat) : Prop := Full lot ts l ∨ i + 1 ≤ l.length
theorem Grown.next {i : Nat} (g : Grown ts lot l i) : Grown ts lot (pass lot ts l) (i + 1) := by
  by_cases f : Full lot ts l
  · rw [pass_full ts l f]
    exact .inl f
  · rcases g with g | g
    · exact absurd g f
    · have := pass_grow ts l f
      exact .inr (by omega)
/-- as many passes as there are persons left: the part -/
theorem part_comp {left m : List Int} (d : Part ts lot x l) (hx : x ∈ lot) (hL : Asc lot) (hleft : ∀ y ∈ l, y ∈ left) (g : Grown ts lot l left.length) (hperm : m.Perm l) (hs : m.Pairwise (· ≤ ·)) : m = comp (adj ts) lot x := by
  have f : Full lot ts l := by
    rcases g with g | g
    · exact g
    · have := nodup_le d.nd hleft
      omega
  exact comp_of hL (asc_of_sorted hs (hperm.nodup_iff.mpr d.nd)) hx fun y => by rw [hperm.mem_iff]; exact d.all f hx y
end

/-! ### numbers -/
theorem numOf_get {nums : List Int} {x : Int} (h : x ∈ evb nums.length) : nums[x.toNat]? = some (numOf nums x) := by
  have := mem_evb.mp h
  have hl : x.toNat < nums.length := by omega
  unfold numOf
  rw [List.getD_eq_getElem?_getD, List.getElem?_eq_getElem hl]
  rfl
theorem worst_eq {nums : List Int} {p top : Int} (hp : p ∈ evb nums.length) :
    ((evb nums.length).map fun o => if o = p then top else numOf nums o) = nums.take p.toNat ++ [top] ++ nums.drop (p.toNat + 1) := by
  have hb := mem_evb.mp hp
  have e : nums.take p.toNat ++ [top] ++ nums.drop (p.toNat + 1) = nums.set p.toNat top := by
    rw [List.set_eq_take_append_cons_drop, if_pos (by omega)]
    simp
  rw [e]
  refine List.ext_getElem? fun i => ?_
  rw [List.getElem?_map]
  by_cases hi : i < nums.length
  · unfold evb
    rw [rgI_get hi, List.getElem?_set]
    simp only [Option.map_some]
    by_cases c : p.toNat = i
    · rw [if_pos c, if_pos (by omega), if_pos (by omega)]
    · rw [if_neg c, if_neg (by omega)]
      have := numOf_get (nums := nums) (x := 0 + (i : Int)) (mem_evb.mpr ⟨by omega, by omega⟩)
      rw [show (0 + (i : Int)).toNat = i by omega] at this
      exact this.symm
  · rw [List.getElem?_eq_none (by rw [evb_len]; omega), List.getElem?_eq_none (by rw [List.length_set]; omega)]
    rfl
end K16
/-! rules that the layer has of lists, here of tuples: >, sorted, set, max, enumerate, in -/
namespace K16
open PySem PySem.Spec PyProof.Rows L2

/-! ### t > u -/
def lexGt : List Int → List Int → Bool
  | [], _ => false
  | _ :: _, [] => true
  | x :: xs, y :: ys => if x = y then lexGt xs ys else decide (y < x)
def rGtT (K : PySem.W.Frag) : R2 := fun x y H Q => ∃ (a b : Addr) (i j k l : Int), x = .ref a ∧ y = .ref b ∧ SqT K H a [.int i, .int j] ∧ SqT K H b [.int k, .int l] ∧
  Q (.bl (decide (k < i ∨ (k = i ∧ l < j)))) H
theorem int_eqd (a b : Int) (t u : Tok) {A : Around} {s : Shared} : SeqAt.EqAt A s (.int a t) (.int b u) (decide (a = b)) := by
  have z : (a == b) = decide (a = b) := by
    by_cases q : a = b
    · rw [decide_eq_true q]
      exact beq_iff_eq.mpr q
    · rw [decide_eq_false q]
      exact beq_eq_false_iff_ne.mpr q
  rw [← z]
  exact SeqAt.EqAt.int_int _ _ _ _
theorem op_gtT {X : Cx} (hu : X.A.units < cLine) : OpR X (compareOp .Gt) (rGtT X.K) := by
  intro pins s σ H x y v u Q I rx ry h
  obtain ⟨a, b, i, j, k, l, rfl, rfl, ha, hb, q⟩ := h
  cases rx
  cases ry
  obtain ⟨its, r1, p1, _⟩ := I.tuple ha
  obtain ⟨its2, r2, p2, _⟩ := I.tuple hb
  obtain ⟨u1, u2, rfl, ri, rj⟩ := vals2 r1
  obtain ⟨u3, u4, rfl, rk, rl⟩ := vals2 r2
  obtain ⟨ti, rfl⟩ := ri
  obtain ⟨tj, rfl⟩ := rj
  obtain ⟨tk, rfl⟩ := rk
  obtain ⟨tl, rfl⟩ := rl
  have R := Ob.RcOp.tuples_gt (A := X.A) (s := s) (e := fun n => if n = 0 then decide (i = k) else decide (j = l)) (r := fun n => if n = 0 then decide (k < i) else decide (l < j)) p1 p2 hu
    (fun n h1 h2 => by
      match n, h1 with
      | 0, _ => exact int_eqd i k ti tk
      | 1, _ => exact int_eqd j l tj tl
      | n + 2, h1 => exact absurd h1 (by simp))
    (fun n h1 h2 _ => by
      match n, h1 with
      | 0, _ => exact Ob.RcOp.gt_int _ _ _ _
      | 1, _ => exact Ob.RcOp.gt_int _ _ _ _
      | n + 2, h1 => exact absurd h1 (by simp))
  refine R _ _ _ _ ⟨.bl _, H, I, ?_, q⟩
  show Value.bool _ = Value.bool _
  congr 1
  show (if decide (i = k) = true then (if decide (j = l) = true then false else decide (l < j)) else decide (k < i)) = _
  by_cases e1 : i = k
  · subst e1
    by_cases e2 : j = l
    · subst e2
      simp
    · simp [e2]
  · have e1' : ¬ k = i := fun z => e1 z.symm
    simp [e1, e1']

/-! ### max(t) -/
section
variable {prog : Program} {w : World} {A : Around} {E : Value → Shared → Prop} {s : Shared}
theorem max_tupI {l : Addr} {its : List Value} {ns : List Int} {Q : Value → Shared → Prop} (hh : A.handled = none) (hl : s.heap.IsTuple l its.toArray) (hi : IntsAre its ns) (hne : 0 < ns.length)
    (h : ∀ h' tk M t', (∀ b o, s.heap.get? b = some o → h'.get? b = some o) → M ∈ ns → (∀ a, a ∈ ns → a ≤ M) → Q (.int M t') { s with heap := h', toks := tk }) : wpAny (model prog w) A (call (.builtin "max") [.ref l]) Q E s := by
  obtain ⟨xs, e⟩ := hi.allInts.items
  have hn : numsOf (intItems xs).toList = ns := by rw [← e]; exact hi.numsOf
  rw [nums_intItems] at hn
  subst hn
  rw [e] at hl
  have hsz : 0 < xs.size := by simpa using hne
  refine call_max_walk (wpAny_pyIter_tuple hl ?_)
  have hlt : l < s.heap.objs.size := by obtain ⟨o, ho, _⟩ := hl; exact Heap.lt_size ho
  have hps : (s.heap.push { cls := .type "tuple_iterator", data := .fields #[.ref l, .int 0 0] }).objs.size = s.heap.objs.size + 1 := Heap.size_push ..
  refine ⟨_, [s.heap.objs.size, l], _, _, _, _, _, rfl, Walks.tuple (A := A.in1) hh s.heap.objs.size l (Nat.ne_of_lt hlt) (intItems xs), ⟨⟨_, Heap.get?_push_size _ rfl, rfl, rfl⟩, hl.push _⟩, fun b hb => ?_, by simpa [intItems] using hsz, CmpOf.ints_gt (numAt xs) (fun _ _ => intItems_at), fun v h' tk hP hk => ?_⟩
  · show b < (s.heap.push _).objs.size
    rw [hps]
    rcases List.mem_cons.mp hb with e | e
    · rw [e]
      exact Nat.lt_succ_self _
    · rw [List.mem_singleton.mp e]
      exact Nat.lt_succ_of_lt hlt
  · have hv : (intItems xs)[argBest (fun i j => decide (numAt xs i > numAt xs j)) (xs.size - 1)]? = some v := by simpa [intItems] using hP
    obtain ⟨t, rfl⟩ := intItems_at hv
    obtain ⟨h1, h2⟩ := argBest_gt (numAt xs) (xs.size - 1)
    refine h h' tk _ t (fun b o q => ?_) ?_ fun a ha => ?_
    · refine hk b o (fun z => ?_) (Heap.get?_push_of_some _ q)
      rw [List.mem_singleton.mp z] at q
      exact absurd (Heap.lt_size q) (Nat.lt_irrefl _)
    · rw [numAt_eq]
      exact PySem.getD_mem (by rw [List.length_map, Array.length_toList]; omega)
    · obtain ⟨j, hj, rfl⟩ := mem_getD ha
      rw [List.length_map, Array.length_toList] at hj
      rw [← numAt_eq]
      exact h2 j (by omega)
end
def rMaxT (K : PySem.W.Frag) : List V → Hp → VK → Prop := fun vs H Q => ∃ (a : Addr) (ns : List Int), vs = [V.ref a] ∧ SqT K H a (ns.map V.int) ∧ 0 < ns.length ∧ ∀ m, m ∈ ns → (∀ y, y ∈ ns → y ≤ m) → Q (.int m) H
theorem cr_maxT {X : Cx} (hc : X.calm = true) : CallR X (.builtin "max") (rMaxT X.K) := by
  intro pins s σ H vs us Q I r h
  obtain ⟨a, ns, rfl, hs, hne, q⟩ := h
  obtain ⟨its, rv, hl, _⟩ := I.tuple hs
  rw [Vals.ref1 r]
  exact max_tupI (I.ok.hd hc) hl rv.ints hne fun h' tk m t' hk h1 h2 => ⟨.int _, H, I.kept hk, ⟨_, rfl⟩, q m h1 h2⟩

/-! ### x in t, items of any depth -/
def rInT (K : PySem.W.Frag) : R2 := fun x y H Q => ∃ d ds, Dp K H x d ∧ Dp K H y (.tuple ds) ∧ SeqAt.shaped d = true ∧ SeqAt.shaped (.tuple ds) = true ∧ Q (.bl (ds.any fun z => PyData.eqv z d)) H
def rNotInT (K : PySem.W.Frag) : R2 := fun x y H Q => ∃ d ds, Dp K H x d ∧ Dp K H y (.tuple ds) ∧ SeqAt.shaped d = true ∧ SeqAt.shaped (.tuple ds) = true ∧ Q (.bl (!ds.any fun z => PyData.eqv z d)) H
theorem op_notInT {X : Cx} (hu : X.A.units + 65 < cLine) : OpR X (compareOp .NotIn) (rNotInT X.K) := by
  intro pins s σ H x y v u Q I rx ry h
  obtain ⟨d, ds, hd, he, sd, se, q⟩ := h
  obtain ⟨as, r1⟩ := Dp.reads I d x v hd rx
  obtain ⟨bs, r2⟩ := Dp.reads I (.tuple ds) y u he ry
  exact SeqAt.notIn_tuple_reads r2 r1 (SeqAt.canLay_of_shaped se) (SeqAt.canLay_of_shaped sd) (room_in_shaped sd hu) ⟨.bl _, H, I, rfl, q⟩

/-! ### sorted(t) -/
section
variable {prog : Program} {w : World} {A : Around} {E : Value → Shared → Prop} {s : Shared}
theorem collect_tupK {l : Addr} {vs : List Value} {Q : List Value → Shared → Prop} (hl : s.heap.IsTuple l vs.toArray) (hsz : vs.length ≤ sizeLine)
    (h : Q vs { s with heap := (s.heap.push (seqObj "list" #[] 0)).update s.heap.objs.size (Obj.mapSeq (· ++ vs.toArray)) }) : wpAny (model prog w) A (collect (.ref l)) Q E s := by
  obtain ⟨o, ho, hc, n, hd⟩ := id hl
  unfold collect
  refine wpAny_bind (wpAny_runValue (codeAny_builtin F.entry_proto_collect ?_))
  show wpAny _ _ (newList [] >>= fun x => again (.builtin "list.__iadd__" ⟨[x, .ref l], []⟩)) _ _ s
  refine wpAny_bind (wpAny_newList (wpAny_pure ⟨Code.quiet_builtin _ (by decide +kernel), codeAny_builtin F.entry_list_iadd ?_⟩))
  show wpAny _ _ (Builtin.List.listExtendWith _ (.ref l) _) _ _ { s with heap := s.heap.push (seqObj "list" #[] 0) }
  unfold Builtin.List.listExtendWith
  have ho' : (s.heap.push (seqObj "list" #[] 0)).get? l = some o := Heap.get?_push_of_some _ ho
  refine wpAny_bind (wpAny_typeOf (T := "tuple") ⟨o, ho', hc⟩ ?_)
  have ht : (Value.type "tuple" == Value.type "tuple") = true := by rfl
  rw [if_pos (by rw [ht]; simp)]
  refine wpAny_bind (listItems_at ho' hd ?_)
  refine wpAny_bind (listItems_at (xs := #[]) (n := 0) (Heap.get?_push_size _ rfl) rfl ?_)
  rw [if_neg (by simp)]
  refine wpAny_bind (listUpdate_at (xs := #[]) (n := 0) (Heap.get?_push_size _ rfl) rfl ?_ (Nat.zero_le _) (by
    show (#[] ++ vs.toArray).size ≤ sizeLine + 1
    simp only [Array.size_append, List.size_toArray, List.length_nil]
    omega))
  refine wpAny_pure ?_
  show wpAny (model prog w) A (load s.heap.objs.size >>= _) Q E { s with heap := (s.heap.push (seqObj "list" #[] 0)).update s.heap.objs.size (Obj.mapSeq (· ++ vs.toArray)) }
  refine wpAny_bind (wpAny_load (get?_update_seq (Heap.get?_push_size _ rfl) _) ?_)
  show wpAny _ _ (pure ((#[] : Array Value) ++ vs.toArray).toList) Q E _
  have e : ((#[] : Array Value) ++ vs.toArray).toList = vs := by simp
  rw [e]
  exact wpAny_pure h
open SrtO in
theorem sorted_ordT {l : Addr} {vs : List Value} {ltv : Value → Value → Bool} {Q : Value → Shared → Prop} (O : Swo ltv) (hl : s.heap.IsTuple l vs.toArray) (hz : vs.length ≤ sizeLine)
    (hS : 2 ≤ vs.length → ∀ (h₁ : Heap) (a : Addr), h₁.get? a = some (seqObj "list" vs.toArray 0) → (∀ b o, s.heap.get? b = some o → b ≠ a ∧ h₁.get? b = some o) → SortableO prog w A.in1.in1 { s with heap := h₁ } a vs ltv)
    (h : ∀ out : List Value, Srtd ltv out → Stb ltv out vs → Q (.ref (s.heap.objs.size + 1)) { s with heap := sortedAll s.heap vs out.toArray }) : wpAny (model prog w) A (call (.builtin "sorted") [.ref l]) Q E s := by
  refine Calls.call_function_entry kind_sorted plain_sorted entry_sorted (args_sorted1 _) ?_
  unfold Builtin.«sorted»
  refine wpAny_bind (m := checkCount "sorted" 1 1 _) (wpAny_pure (wpAny_bind (collect_tupK hl hz (wpAny_bind (wpAny_newList ?_ hz)))))
  have hsz : ((s.heap.push (seqObj "list" #[] 0)).update s.heap.objs.size (Obj.mapSeq (· ++ vs.toArray))).objs.size = s.heap.objs.size + 1 := by rw [Heap.size_update, size_push']
  have hoL : (((s.heap.push (seqObj "list" #[] 0)).update s.heap.objs.size (Obj.mapSeq (· ++ vs.toArray))).push (seqObj "list" vs.toArray 0)).get? (s.heap.objs.size + 1) = some (seqObj "list" vs.toArray 0) := by
    rw [← hsz]
    exact Heap.get?_push_size _ rfl
  have keep : ∀ b o, s.heap.get? b = some o → b ≠ s.heap.objs.size + 1 ∧ (((s.heap.push (seqObj "list" #[] 0)).update s.heap.objs.size (Obj.mapSeq (· ++ vs.toArray))).push (seqObj "list" vs.toArray 0)).get? b = some o := by
    intro b o q
    have hlt : b < s.heap.objs.size := Heap.lt_size q
    refine ⟨Nat.ne_of_lt (Nat.lt_succ_of_lt hlt), Heap.get?_push_of_some _ ?_⟩
    rw [Heap.get?_update_ne _ _ _ _ (Nat.ne_of_lt hlt)]
    exact Heap.get?_push_of_some _ q
  show wpAny _ _ _ _ _ { s with heap := ((s.heap.push (seqObj "list" #[] 0)).update s.heap.objs.size (Obj.mapSeq (· ++ vs.toArray))).push (seqObj "list" vs.toArray 0) }
  rw [hsz]
  refine wpAny_bind (wpAny_holding (wpAny_call_entry slot_list_sort ⟨_, hoL, rfl⟩ entry_list_sort (list_sort_ord O hoL hz (fun h2 => hS h2 _ _ hoL keep) fun out hs hb => ⟨_, rfl, ?_⟩) (args_list_sort _)))
  exact wpAny_pure ⟨_, rfl, h out hs hb⟩
open SrtO in
theorem sorted_pairsT {l : Addr} {vs : List Value} {k : Value → Int × Int} {Q : Value → Shared → Prop} (hl : s.heap.IsTuple l vs.toArray) (hz : vs.length ≤ sizeLine) (hp : ∀ v ∈ vs, Srt.IsPair s.heap v (k v).1 (k v).2)
    (h : ∀ (h' : Heap) (d : Addr) (out : List Value), Srtd (fun v u => lexB (k v) (k u)) out → Stb (fun v u => lexB (k v) (k u)) out vs → (∀ b o, s.heap.get? b = some o → h'.get? b = some o) → s.heap.objs.size ≤ d →
      (∃ n, h'.get? d = some (seqObj "list" out.toArray n)) → Q (.ref d) { s with heap := h' }) : wpAny (model prog w) A (call (.builtin "sorted") [.ref l]) Q E s := by
  refine sorted_ordT (swo_lex k) hl hz (fun h2 h₁ a ha kk => ?_) fun out hs hb => ?_
  · refine pairs_sortableO (s := { s with heap := h₁ }) (by omega) (fun v hm => (hp v hm).keeps fun b o e _ => (kk b o e).2) fun o e => ?_
    have e' : some o = some (seqObj "list" vs.toArray 0) := e.symm.trans ha
    cases e'
    intro c
    exact absurd (Value.type.inj c) (by decide)
  · exact h _ _ out hs hb (fun b o e => sortedAll_old e) (Nat.le_succ _) (sortedAll_at s.heap vs out.toArray)
end
def rSortedPT (K : PySem.W.Frag) : List V → Hp → VK → Prop := fun vs H Q => ∃ (a : Addr) (xs : List V) (k : V → Int × Int), vs = [V.ref a] ∧ SqT K H a xs ∧ (∀ x ∈ xs, ∃ t, x = V.ref t ∧ H t = some (.tup [.int (k x).1, .int (k x).2])) ∧
  ∀ ys p, SrtO.Srtd (ltP k) ys → SrtO.Stb (ltP k) ys xs → H p = none → Q (.ref p) (upd H p (.lst ys))
theorem cr_sortedPT {X : Cx} : CallR X (.builtin "sorted") (rSortedPT X.K) := by
  intro pins s σ H vs us Q I r h
  obtain ⟨a, xs, k, rfl, hs, hx, q⟩ := h
  obtain ⟨its, rv, hl, hz⟩ := I.tuple hs
  obtain ⟨u, rfl, ru⟩ := vals1 r
  obtain rfl : u = Value.ref a := ru
  obtain ⟨e1, e2⟩ := refs_back rv fun x m => by
    obtain ⟨t, e, _⟩ := hx x m
    exact ⟨t, e⟩
  refine sorted_pairsT (k := fun u => k (backV u)) hl (by rw [← rv.length]; exact hz) (fun v hv => ?_) fun h' d out h1 h2 kp hd hn => ?_
  · obtain ⟨t, rfl⟩ := e2 v hv
    have hm : V.ref t ∈ xs := by
      rw [e1]
      exact List.mem_map.mpr ⟨_, hv, rfl⟩
    obtain ⟨t', e, ht⟩ := hx _ hm
    cases e
    obtain ⟨_, its2, r2, o, ho, hc, n, hd⟩ := I.hok _ _ ht
    obtain ⟨u1, u2, rfl, ri, rj⟩ := vals2 r2
    obtain ⟨t1, rfl⟩ := ri
    obtain ⟨t2, rfl⟩ := rj
    exact ⟨t, o, t1, t2, n, rfl, ho, hc, hd⟩
  · have h3 : ∀ u ∈ out, ∃ a, u = Value.ref a := fun u hu => e2 u (h2.perm.mem_iff.mp hu)
    obtain ⟨n, hn⟩ := hn
    have hb : SrtO.Stb (ltP k) (out.map backV) xs := by
      rw [e1]
      exact SrtO.Stb.map (ltP_swo k) backV h2
    refine ⟨.ref d, upd H d (.lst (out.map backV)), I.laid (t' := s.toks) kp hd ⟨?_, out, n, vals_back h3, hn⟩, rfl, q _ d (SrtO.srtd_map h1) hb (I.hok.fresh hd)⟩
    rw [hb.len]
    exact hz
end K16
namespace K16
open PySem PySem.Spec PyProof.Rows L2
/-! ### enumerate(t) -/
set_option maxHeartbeats 4000000 in
theorem meets_enum1 {v : Value} {o : Obj} {H : Heap → Prop} (B : Begins v o H) :
    Meets (Builtin.«enumerate.__new__» ⟨[.type "enumerate", v], []⟩) (fun _ R s => H s.heap ∧
      R (.ok (.ret (.ref (s.heap.push o).objs.size))) { s with heap := (s.heap.push o).push { cls := .type "enumerate", data := .fields #[.none, .bool false, .ref s.heap.objs.size, rawInt 0, .none, .none] } }) :=
  .of_wp fun prog w A R s h => by
    obtain ⟨hp, g, d, tk, os⟩ := s
    obtain ⟨h1, h⟩ := h
    have hsub := sub_enumerate
    have q1 : ∀ {A' : Around} {E : Value → Shared → Prop} {Q : Value → Shared → Prop}, Q (.ref hp.objs.size) ⟨hp.push o, g, d, tk, os⟩ → wpAny (model prog w) A' (pyIter v) Q E ⟨hp, g, d, tk, os⟩ := fun q => B.iter prog w _ _ ⟨hp, g, d, tk, os⟩ _ h1 q
    wp_walk using q1
    refine wpAny_stack_any fun st => wpAny_pure ?_
    split
    · rename_i c _ _ _ _ _
      cases (c == Value.type "enumerate")
      all_goals
        wp_walk using q1
        exact ⟨_, rfl, h⟩
    · wp_walk using q1
      exact ⟨_, rfl, h⟩
theorem enum_begins1 {prog : Program} {w : World} {A : Around} {E : Value → Shared → Prop} {s : Shared} {v : Value} {o : Obj} {H : Heap → Prop} {Q : Value → Shared → Prop} (B : Begins v o H) (h1 : H s.heap)
    (h : ∀ h', IsEnum h' (s.heap.objs.size + 1) s.heap.objs.size 0 .none → h'.get? s.heap.objs.size = some o → h'.objs.size = s.heap.objs.size + 2 →
      (∀ b o, s.heap.get? b = some o → h'.get? b = some o) → Q (.ref (s.heap.objs.size + 1)) { s with heap := h' }) : wpAny (model prog w) A (call (.type "enumerate") [v]) Q E s := by
  refine callType_new F.called_enumerate (by decide) (F.typeCall_enumerate_1 _) (F.newCall_enumerate_1 _) (fun obj => F.args_object_init_2 obj _) F.entry_enumerate_new (meets_enum1 B) ⟨h1, ?_⟩
  have hz : (s.heap.push o).objs.size = s.heap.objs.size + 1 := Heap.size_push ..
  show _ ∧ _
  rw [hz]
  have he : IsEnum ((s.heap.push o).push { cls := .type "enumerate", data := .fields #[.none, .bool false, .ref s.heap.objs.size, rawInt 0, .none, .none] }) (s.heap.objs.size + 1) s.heap.objs.size 0 .none := by
    have q := Heap.get?_push_size (s.heap.push o) (o := { cls := .type "enumerate", data := .fields #[.none, .bool false, .ref s.heap.objs.size, rawInt 0, .none, .none] }) rfl
    rw [hz] at q
    exact q
  refine ⟨⟨_, he, rfl⟩, h _ he (Heap.get?_push_of_some _ (Heap.get?_push_size _ B.free)) (by rw [Heap.size_push, hz]) fun b o x => Heap.get?_push_of_some _ (Heap.get?_push_of_some _ x)⟩
/-- the tuple at a, each item in a new pair with its number -/
def IteT (K : PySem.W.Frag) (a : Addr) : It :=
  ⟨fun i H => ∃ (xs : List V) (x : V), SqT K H a xs ∧ xs[i]? = some x, fun i H v H' => ∃ T x, v = .ref T ∧ H T = none ∧ H' = upd H T (.tup [.int (i : Nat), x]) ∧ ∀ xs, SqT K H a xs → xs[i]? = some x, fun i H => ∃ xs : List V, SqT K H a xs ∧ xs.length = i⟩
theorem turn_enumT {P : Program} {w : World} {K : PySem.W.Frag} {elts : List Expr} {kk : Nat} {tpos : Pos} (a e it : Addr) :
    Turn P w K (.Tuple elts kk tpos) (IteT K a) [e, it] e (fun i h => (∃ old, IsEnum h e it ((i : Nat) : Int) old) ∧ h.IsTupleIter it a i ∧ e ≠ it ∧ a ≠ it ∧ e ≠ a) where
  mem := by simp
  obj := fun i h st b hb => by
    obtain ⟨⟨old, he⟩, ⟨o, ho, hc, hd⟩, _⟩ := st
    have e' : b = e ∨ b = it := by simpa using hb
    rcases e' with z | z
    · rw [z]
      exact ⟨_, he, fun v q => nomatch q⟩
    · rw [z]
      exact ⟨o, ho, fun v q => by rw [hd] at q; cases q⟩
  keep := fun i h h' st k => let ⟨⟨old, he⟩, hi, hne⟩ := st; ⟨⟨old, k e (by simp) _ he⟩, hi.at fun o q => k it (by simp) o q, hne⟩
  item := by
    intro X hP hw hK hc i pins s σ H E I hf st hg
    subst hP hw hK
    obtain ⟨⟨old, he⟩, hit, hne, hat, hea⟩ := st
    obtain ⟨xs, x, hq, hx⟩ := hg
    obtain ⟨its, rv, p, hz⟩ := I.tuple hq
    obtain ⟨u, hu, ru⟩ := rv.get hx
    have hel : e < s.heap.objs.size := Heap.lt_size he
    have hil : it < s.heap.objs.size := by obtain ⟨_, q, _⟩ := hit; exact Heap.lt_size q
    have hil2 : i < its.toArray.size := by
      have q := (List.getElem?_eq_some_iff.mp hu).1
      simpa using q
    have hh1 : X.A.in1.handled = none := I.ok.hd hc
    refine wpAny_pyNext_enum_itemC (Draws.tuple hh1 it a hat its.toArray) he ⟨hit, p⟩ hil2 hne (by simp [hne, hea]) fun y h' tk hy ho hit' hT hsz hk => ?_
    have ey : y = u := by
      have q : its[i]? = some y := by simpa using hy
      exact Option.some.inj (q.symm.trans hu)
    subst ey
    refine ⟨_, rfl, wpAny_letOwnedTupleGo_enum (s := { s with heap := h', toks := tk + 1 }) ho fun h'' he' sb => ?_⟩
    have hT2 : h''.get? s.heap.objs.size = some { cls := .type "tuple", data := .seq #[.int i tk, y] } := (sb.2 _ (Nat.ne_of_gt hel)).trans hT
    have new : ObjOk X.prog X.w (upd H s.heap.objs.size (.tup [.int (i : Nat), x])) h'' s.heap.objs.size (.tup [.int (i : Nat), x]) :=
      ⟨by show 2 ≤ sizeLine; decide, [.int i tk, y], .cons ⟨_, rfl⟩ (.cons ru .nil), ⟨_, hT2, rfl, _, rfl⟩⟩
    have I1 : Inv X pins σ (upd H s.heap.objs.size (.tup [.int (i : Nat), x])) { s with heap := h'', toks := tk + 1 } :=
      I.turnedNew (ch := [e, it]) (fun b ob hb q => (sb.2 b (fun z => hb (by simp [z]))).trans (hk b ob (fun z => hb (by simp [z])) (fun z => hb (by simp [z])) q)) hf (Nat.le_refl _) new
    refine ⟨.ref s.heap.objs.size, _, I1, rfl, ⟨_, x, rfl, I.hok.fresh (Nat.le_refl _), rfl, fun ys hy => by rw [I.tuple_inj hy hq]; exact hx⟩, ⟨⟨y, ?_⟩, hit'.1.at fun o q => (sb.2 it (Ne.symm hne)).trans q, hne, hat, hea⟩, fun b hb => ?_⟩
    · have e1 : ((i + 1 : Nat) : Int) = (i : Int) + 1 := by omega
      rw [e1]
      exact he'
    · have hb' : b < s.heap.objs.size := by
        have e' : b = e ∨ b = it := by simpa using hb
        rcases e' with z | z
        · rw [z]; exact hel
        · rw [z]; exact hil
      rw [upd_ne (Nat.ne_of_lt hb')]
      exact (hf b hb).1
  done := by
    intro X hP hw hK hc i pins s σ H E I hf st hg
    subst hP hw hK
    obtain ⟨⟨old, he⟩, hit, hne, hat, hea⟩ := st
    obtain ⟨xs, hq, hx⟩ := hg
    obtain ⟨its, rv, p, hz⟩ := I.tuple hq
    obtain ⟨f0, f1, f2, f3, f4, f5⟩ := hf it (by simp)
    have hl := rv.length
    have hh1 : X.A.in1.handled = none := I.ok.hd hc
    have ei : its.toArray.size = i := by
      rw [List.size_toArray]
      omega
    refine wpAny_pyNext_enum_endD (Draws.tuple hh1 it a hat its.toArray) he ⟨by rw [ei]; exact hit, p⟩ fun h' eb => ⟨rfl, I.turned (t' := s.toks) (fun b o hb q => eb b o hb q) f0 f1 f3 f4 f5⟩
  self := fun A i s Q E st h => let ⟨⟨_, he⟩, _⟩ := st; wpAny_pyIter_enum he h
def iEnumT (K : PySem.W.Frag) (ta : TA) : TI := fun σ H R => ta σ H fun vs H1 => ∃ a xs, vs = [.ref a] ∧ SqT K H1 a xs ∧ R (IteT K a) H1
theorem pi_enumT {X : Cx} {e : Expr} {ta : TA} {p pos tpos : Pos} {elts : List Expr} {kk : Nat} (hg : Gl X "enumerate") (hm : X.mg "enumerate" = none) (ha : PA X [e] ta) (hs : starEach [e] X.env = [(false, eval e X.env)] := by rfl) :
    PI X (.Tuple elts kk tpos) (.Call (.Name "enumerate" p) [e] [] pos) (iEnumT X.K ta) := by
  refine ⟨fun pins s σ H R I h => ?_⟩
  refine Call_ (ld_blt I hg hm boot_enumerate (PyProof.Rows.callWith_type1 (thn (ha.run pos pins s σ H _ I h) fun us s1 ⟨vs, H1, I1, r1, q1⟩ => ?_) hs rfl))
  obtain ⟨a, xs, ex, hq, q⟩ := q1
  subst ex
  obtain ⟨u, rfl, ru⟩ := vals1 r1
  cases ru
  obtain ⟨its, rv, p', hz⟩ := I1.tuple hq
  refine enum_begins1 (begins_tuple a its.toArray) p' fun h' he hit hsz hk => wpAny_pyIter_enum he ?_
  have I2 : Inv X pins σ H1 { s1 with heap := h' } := I1.kept (t' := s1.toks) hk
  have hal : a < s1.heap.objs.size := by obtain ⟨o, ho, _⟩ := p'; exact Heap.lt_size ho
  have it0 : h'.IsTupleIter s1.heap.objs.size a 0 := ⟨_, hit, rfl, rfl⟩
  refine ⟨s1.heap.objs.size + 1, [s1.heap.objs.size + 1, s1.heap.objs.size], _, _, H1, rfl, I2, turn_enumT a (s1.heap.objs.size + 1) s1.heap.objs.size, ⟨⟨.none, he⟩, it0, Nat.succ_ne_self _, Nat.ne_of_lt hal, Nat.ne_of_gt (Nat.lt_succ_of_lt hal)⟩, fun b hb => ?_, q⟩
  have e' : b = s1.heap.objs.size + 1 ∨ b = s1.heap.objs.size := by simpa using hb
  have hle : s1.heap.objs.size ≤ b := by
    rcases e' with z | z
    · rw [z]
      exact Nat.le_add_right _ _
    · rw [z]
      exact Nat.le_refl _
  exact I1.fpOk hle (I1.hok.fresh hle)
theorem walk_enumT {K : PySem.W.Frag} {a : Addr} {xs : List V} : Walk (IteT K a) xs.length (fun H => SqT K H a xs) (YPair (fun i => some (.int (i : Nat))) (fun i => xs[i]?)) := by
  refine ⟨fun i _ hi q => ⟨xs, xs[i], q, by simp [hi]⟩, fun _ q => ⟨xs, q, rfl⟩, fun i H v H' _ q y => ?_⟩
  obtain ⟨T, x, h1, h2, h3, h4⟩ := y
  exact ⟨T, .int (i : Nat), x, h1, h2, h3, rfl, h4 xs q⟩

/-! ### set(t), t a tuple of tuples of ints -/
section
variable {P : Program} {w : World} {A : Around} {E : Value → Shared → Prop} {s : Shared}
theorem call_set_tupsT {l : Addr} {items : Array Value} (ks : List (Addr × List Int)) {Q : Value → Shared → Prop} (hh : A.handled = none) (hl : s.heap.IsTuple l items) (hit : items.toList = ks.map fun p => Value.ref p.1)
    (hk : ∀ p ∈ ks, IsT P w s.heap p.2 p.1) (hfew : ks.length < 64) (hu : A.units + 3 < cLine)
    (h : ∀ (h' : Heap) (tk : Nat) L es ep t, SetTR P w h' s.heap.objs.size L es ep t → Got ks ks.length L → (∀ b o, s.heap.get? b = some o → h'.get? b = some o) → Q (.ref s.heap.objs.size) { s with heap := h', toks := tk }) :
    wpAny (model P w) A (call (.type "set") [.ref l]) Q E s := by
  have hisz : items.size = ks.length := by
    have q := congrArg List.length hit
    rw [Array.length_toList, List.length_map] at q
    exact q
  obtain ⟨c, tl, hmro⟩ := F.called_set.mro
  have hmade := F.called_set.made
  have hsub := F.called_set.sub
  refine wpAny_call (codeAny_of_tree ?_)
  show wpAny _ _ (callAny (.type "set") _) _ _ _
  refine wpAny_pure ⟨Code.quiet_builtin _ (by decide +kernel), codeAny_builtin F.entry_type_call ?_⟩
  rw [Around.under_plain (weight_type_call_type "set" [.ref l] []) rfl]
  have h1 := F.called_set.notType
  have h2 := F.called_set.canCreate
  have hct := F.typeCall_set_1 (.ref l)
  repeat (any_goals (first | assumption | wp_step))

  refine codeAny_mono (code_set_led1 (.ref l) (E := E) (Q₁ := fun obj s₁ => obj = .ref s.heap.objs.size ∧ s₁ = { s with heap := s.heap.push { cls := .type "set", dict := none, data := .set #[] 0 (.fresh 0 0 (!w.params.followText "set-order")) } }) ⟨rfl, rfl⟩) fun r s₁ hr => ?_
  cases r with
  | error e => exact hr
  | ok fl =>
    cases fl with
    | ret obj =>
      obtain ⟨rfl, rfl⟩ := hr
      have hS : (s.heap.push { cls := .type "set", dict := none, data := .set #[] 0 (.fresh 0 0 (!w.params.followText "set-order")) }).get? s.heap.objs.size = some { cls := .type "set", dict := none, data := .set #[] 0 (.fresh 0 0 (!w.params.followText "set-order")) } := Heap.get?_push_size _ rfl
      have hT : Shared.TypeIs { s with heap := s.heap.push { cls := .type "set", dict := none, data := .set #[] 0 (.fresh 0 0 (!w.params.followText "set-order")) } } (.ref s.heap.objs.size) "set" := ⟨_, hS, rfl⟩
      have hli := F.called_set.init.lookup
      have hbi := F.called_set.init.bind (.ref s.heap.objs.size)
      repeat (any_goals (first | assumption | wp_step))

      refine codeAny_mono (codeAny_call_builtin (R := wants (fun r s₂ => r = .none ∧ ∃ h' tk L es ep t, s₂ = { s with heap := h', toks := tk } ∧ SetTR P w h' s.heap.objs.size L es ep t ∧ Got ks ks.length L ∧
          (∀ b o, s.heap.get? b = some o → h'.get? b = some o)) E) F.called_set.init.plain F.entry_set_init (check_set_init_1 hT ?_)) fun r₂ s₂ hr₂ => ?_
      · obtain ⟨ol, hol, hcl, nl, hdl⟩ := hl
        obtain ⟨ocls, odict, odata, oslots⟩ := ol
        simp only at hcl hdl
        subst hcl
        subst hdl
        have hol' : (s.heap.push { cls := .type "set", dict := none, data := .set #[] 0 (.fresh 0 0 (!w.params.followText "set-order")) }).get? l = some { cls := .type "tuple", dict := odict, data := .seq items nl, slots := oslots } := Heap.get?_push_of_some _ hol
        have hsls := F.sub_tuple_set
        have hslf := F.sub_tuple_frozenset
        have hne : (Value.type "tuple" == Value.type "dict") = false := by decide
        have hl1 : (s.heap.push { cls := .type "set", dict := none, data := .set #[] 0 (.fresh 0 0 (!w.params.followText "set-order")) }).IsTuple l items := ⟨_, hol', rfl, nl, rfl⟩
        unfold Builtin.«set.__init__» noKeywords Builtin.Frozenset.updateFrom
        generalize hPI : pyIter = PI
        wp_walk
        subst hPI

        refine wpAny_pyIter_tuple hl1 ?_
        refine wpAny_bind (wpAny_runValue ?_)
        have hlS : l < s.heap.objs.size := Heap.lt_size hol
        have hh3 : A.in1.in1.in1.handled = none := by simp [hh]
        have hneI : l ≠ (s.heap.push { cls := .type "set", dict := none, data := .set #[] 0 (.fresh 0 0 (!w.params.followText "set-order")) }).objs.size := by
          rw [Heap.size_push]
          exact Nat.ne_of_lt (Nat.lt_succ_of_lt hlS)
        have hSf : s.heap.objs.size ∉ [(s.heap.push { cls := .type "set", dict := none, data := .set #[] 0 (.fresh 0 0 (!w.params.followText "set-order")) }).objs.size, l] := by
          rw [Heap.size_push]
          simp only [List.mem_cons, List.mem_singleton, List.not_mem_nil, or_false, not_or]
          exact ⟨Nat.ne_of_lt (Nat.lt_succ_self _), Nat.ne_of_gt hlS⟩
        have hval : ∀ (i : Nat) (v : Value), items[i]? = some v → ∃ p, ks[i]? = some p ∧ v = .ref p.1 := fun i v hv => by
          have q : items.toList[i]? = some v := by
            rw [Array.getElem?_toList]
            exact hv
          rw [hit, List.getElem?_map] at q
          cases hq : ks[i]? with
          | none =>
            rw [hq] at q
            cases q
          | some p =>
            rw [hq] at q
            exact ⟨p, rfl, (Option.some.inj q).symm⟩
        have none_of : ∀ b, s.heap.objs.size ≤ b → s.heap.get? b = none := fun b hb => by
          cases q : s.heap.get? b with
          | none => rfl
          | some o => exact absurd (Nat.lt_of_lt_of_le (Heap.lt_size q) hb) (Nat.lt_irrefl _)
        refine set_update_tups ((Walks.tuple hh3 _ l hneI items).toS) s.heap.objs.size
          hSf ks hisz hfew hval s.heap hk (none_of _ (Nat.le_refl _)) (fun b hb => none_of b (by
            rw [List.mem_singleton.mp hb, Heap.size_push]
            exact Nat.le_succ _)) hu (items.size - 0) 0 _ (by omega) (Nat.zero_le _)
          ⟨⟨_, Heap.get?_push_size _ rfl, rfl, rfl⟩, (hl1.push _)⟩ (fun b o e => Heap.get?_push_of_some _ (Heap.get?_push_of_some _ e)) ?hS0 ?hR
        case hS0 =>
          have hget : ((s.heap.push { cls := .type "set", dict := none, data := .set #[] 0 (.fresh 0 0 (!w.params.followText "set-order")) }).push { cls := .type "tuple_iterator", data := .fields #[.ref l, .int 0 0] }).get? s.heap.objs.size
              = some { cls := .type "set", dict := none, data := .set #[] 0 (.fresh 0 0 (!w.params.followText "set-order")) } := Heap.get?_push_of_some _ hS
          exact ⟨[], #[], 0, _, setTR_fresh hget, Got.zero ks⟩
        case hR =>
          intro s' L es ep t hm hS' g' hkp
          obtain ⟨h', g2, d', tk', os'⟩ := s'
          have eg : g2 = s.gens := hm.gens
          have ed : d' = s.drawn := hm.drawn
          have eo : os' = s.os := hm.os
          subst eg
          subst ed
          subst eo
          show wpAny _ _ _ _ _ _
          refine wpAny_pure ?_
          show wpAny _ _ (ret Value.none) _ _ _
          rw [hisz] at g'
          exact wpAny_pure ⟨rfl, h', tk', L, es, ep, t, rfl, hS', g', hkp⟩

      · cases r₂ with
        | error e => exact hr₂
        | ok fl₂ =>
          cases fl₂ with
          | ret r =>
            obtain ⟨rfl, h', tk, L, es, ep, t, rfl, hS', g', hk'⟩ := hr₂
            repeat (any_goals (first | assumption | wp_step))
            exact h _ _ _ _ _ _ hS' g' hk'
          | _ => exact hr₂.elim
    | _ => exact hr.elim
end
def rSetOfTT (K : PySem.W.Frag) (P : Program) (w : World) : List V → Hp → VK → Prop := fun xs H Q => ∃ (l : Addr) (ks : List (Addr × List Int)), xs = [V.ref l] ∧ SqT K H l (ks.map fun p => V.ref p.1) ∧ (∀ p ∈ ks, SqT K H p.1 (p.2.map V.int)) ∧ ks.length < 64 ∧
  ∀ a L, H a = none → (∀ p ∈ L, p ∈ ks) → (∀ p ∈ ks, p.2 ∈ L.map (·.2)) → Q (.ref a) (upd H a (SetTO P w a L))
theorem cr_setOfTT {X : Cx} (hc : X.calm = true) (hu : X.A.units + 64 < cLine) : CallR X (.type "set") (rSetOfTT X.K X.prog X.w) := by
  intro pins s σ H xs us Q I r h
  obtain ⟨l, ks, rfl, hl, hk, hf, q⟩ := h
  rw [Vals.ref1 r]
  obtain ⟨its, rv, pl, hz⟩ := I.tuple hl
  have hn : H s.heap.objs.size = none := I.hok.fresh (Nat.le_refl _)
  refine call_set_tupsT (P := X.prog) (w := X.w) ks (I.ok.hd hc) pl (by simpa using refs_of_vals rv) (fun p hp => I.isT (hk p hp)) hf (by omega) fun h' tk L es ep t R g k => ?_
  refine ⟨.ref s.heap.objs.size, upd H s.heap.objs.size (SetTO X.prog X.w s.heap.objs.size L), I.laid (t' := tk) k (Nat.le_refl _) (setTO_new R.t0), rfl, q _ L hn (fun p hp => ?_) fun p hp => ?_⟩
  · exact List.mem_of_mem_take (g.sub p hp)
  · exact g.all p (by rw [List.take_length]; exact hp)
end K16
namespace K16
open PySem PySem.Spec PyProof.Rows L2

/-! ### data: ints, None, tuples -/
inductive Dt where
  | i (n : Int)
  | non
  | t (xs : List Dt)
mutual
inductive Rp (H : Hp) : V → Dt → Prop
  | i (n : Int) : Rp H (.int n) (.i n)
  | non : Rp H .non .non
  | t {a : Addr} {xs : List V} {ds : List Dt} : H a = some (.tup xs) → RpL H xs ds → Rp H (.ref a) (.t ds)
inductive RpL (H : Hp) : List V → List Dt → Prop
  | nil : RpL H [] []
  | cons {v : V} {vs : List V} {d : Dt} {ds : List Dt} : Rp H v d → RpL H vs ds → RpL H (v :: vs) (d :: ds)
end
/-- the tuples stand -/
def SameT (H H' : Hp) : Prop := ∀ a xs, H a = some (.tup xs) → H' a = some (.tup xs)
theorem same_t {H H' : Hp} (s : Same H H') : SameT H H' := fun a _ h => s a _ h
theorem sameT_lst {H : Hp} {D : Addr} {acc : List V} {o : HO} (h : H D = some (.lst acc)) : SameT H (upd H D o) := fun a xs e => by
  rw [upd_ne]
  · exact e
  · intro z
    rw [z, h] at e
    cases e
theorem sameT_new {H : Hp} {D : Addr} {o : HO} (h : H D = none) : SameT H (upd H D o) := fun a xs e => by
  rw [upd_ne (ne_of_none e h)]
  exact e
section
variable {H H' : Hp}
mutual
theorem Rp.mono (k : SameT H H') : ∀ (d : Dt) (v : V), Rp H v d → Rp H' v d
  | .i n, _, h => by
    cases h
    exact .i n
  | .non, _, h => by
    cases h
    exact .non
  | .t ds, _, h => by
    cases h with
    | t ha hl => exact .t (k _ _ ha) (RpL.mono k ds _ hl)
theorem RpL.mono (k : SameT H H') : ∀ (ds : List Dt) (vs : List V), RpL H vs ds → RpL H' vs ds
  | [], _, h => by
    cases h
    exact .nil
  | d :: ds, _, h => by
    cases h with
    | cons h1 h2 => exact .cons (Rp.mono k d _ h1) (RpL.mono k ds _ h2)
end
theorem Rp.keep {d : Dt} {v : V} (h : Rp H v d) (k : SameT H H') : Rp H' v d := Rp.mono k d v h
theorem RpL.keep {ds : List Dt} {vs : List V} (h : RpL H vs ds) (k : SameT H H') : RpL H' vs ds := RpL.mono k ds vs h
theorem Rp.int {v : V} {n : Int} (h : Rp H v (.i n)) : v = .int n := by
  cases h
  rfl
theorem Rp.tup {v : V} {ds : List Dt} (h : Rp H v (.t ds)) : ∃ a xs, v = .ref a ∧ H a = some (.tup xs) ∧ RpL H xs ds := by
  cases h with
  | t ha hl => exact ⟨_, _, rfl, ha, hl⟩
theorem RpL.len : ∀ {ds : List Dt} {vs : List V}, RpL H vs ds → vs.length = ds.length
  | [], _, .nil => rfl
  | d :: ds, _, .cons _ h2 => by
    rw [List.length_cons, List.length_cons, RpL.len h2]
theorem RpL.get : ∀ {ds : List Dt} {vs : List V} {i : Nat} {d : Dt}, RpL H vs ds → ds[i]? = some d → ∃ v, vs[i]? = some v ∧ Rp H v d
  | _, _, 0, d, .cons h1 _, e => by
    have e' := Option.some.inj e
    subst e'
    exact ⟨_, rfl, h1⟩
  | _, _, i + 1, d, .cons _ h2, e => RpL.get (i := i) h2 e
  | _, _, i, d, .nil, e => by simp at e
theorem RpL.get' {ds : List Dt} {vs : List V} {i : Nat} {v : V} (h : RpL H vs ds) (e : vs[i]? = some v) : ∃ d, ds[i]? = some d ∧ Rp H v d := by
  have hi := (List.getElem?_eq_some_iff.mp e).1
  rw [h.len] at hi
  obtain ⟨u, hu, r⟩ := h.get (List.getElem?_eq_getElem hi)
  rw [e] at hu
  have e' := Option.some.inj hu
  subst e'
  exact ⟨_, List.getElem?_eq_getElem hi, r⟩
theorem RpL.append : ∀ {ds es : List Dt} {vs us : List V}, RpL H vs ds → RpL H us es → RpL H (vs ++ us) (ds ++ es)
  | _, _, _, _, .nil, h => h
  | _, _, _, _, .cons h1 h2, h => .cons h1 (RpL.append h2 h)
theorem RpL.one {v : V} {d : Dt} (h : Rp H v d) : RpL H [v] [d] := .cons h .nil
theorem RpL.ints : ∀ {ns : List Int} {vs : List V}, RpL H vs (ns.map Dt.i) → vs = ns.map V.int
  | [], _, .nil => rfl
  | n :: ns, _, .cons h1 h2 => by
    rw [h1.int, RpL.ints h2]
    rfl
theorem rpl_ints : ∀ (ns : List Int), RpL H (ns.map V.int) (ns.map Dt.i)
  | [] => .nil
  | n :: ns => .cons (.i n) (rpl_ints ns)
theorem RpL.mem {α : Type} {e : α → Dt} : ∀ {as : List α} {vs : List V}, RpL H vs (as.map e) → ∀ v ∈ vs, ∃ a ∈ as, Rp H v (e a)
  | [], _, .nil, _, h => by simp at h
  | a :: as, _, .cons h1 h2, v, h => by
    rcases List.mem_cons.mp h with q | q
    · subst q
      exact ⟨a, List.mem_cons_self, h1⟩
    · obtain ⟨b, hb, r⟩ := RpL.mem h2 v q
      exact ⟨b, List.mem_cons_of_mem _ hb, r⟩
theorem Rp.new {q : Addr} {xs : List V} {ds : List Dt} (n : H q = none) (h : RpL H xs ds) : Rp (upd H q (.tup xs)) (.ref q) (.t ds) := .t upd_same (h.keep (sameT_new n))
theorem sUpd {q : Addr} {o : HO} (s : Same H H') (n : H' q = none) : Same H (upd H' q o) := fun b u e => by
  rw [upd_ne (ne_of_none (s b u e) n)]
  exact s b u e
theorem same_new {q : Addr} {o : HO} (n : H q = none) : Same H (L2.upd H q o) := fun b u e => by
  rw [upd_ne (ne_of_none e n)]
  exact e
/-- own list changed: what stood at first stands -/
theorem sOwn {G : Hp} {q : Addr} {o : HO} (s : Same G H) (n : G q = none) : Same G (L2.upd H q o) := fun b u e => by
  rw [upd_ne (ne_of_none e n)]
  exact s b u e
end

/-! ### as the library's data -/
mutual
def toP : Dt → PyData
  | .i n => .int n
  | .non => .none
  | .t xs => .tuple (toPs xs)
def toPs : List Dt → List PyData
  | [] => []
  | d :: ds => toP d :: toPs ds
end
theorem toPs_map : ∀ ds : List Dt, toPs ds = ds.map toP
  | [] => rfl
  | d :: ds => by
    show toP d :: toPs ds = _
    rw [toPs_map ds]
    rfl
mutual
theorem Rp.dp (K : PySem.W.Frag) {H : Hp} : ∀ (d : Dt) (v : V), Rp H v d → Dp K H v (toP d)
  | .i n, _, h => by
    cases h
    exact .int n
  | .non, _, h => by
    cases h
    exact .non
  | .t ds, _, h => by
    cases h with
    | t ha hl => exact .tup (SqT.of ha) (RpL.dp K ds _ hl)
theorem RpL.dp (K : PySem.W.Frag) {H : Hp} : ∀ (ds : List Dt) (vs : List V), RpL H vs ds → DpAll K H vs (toPs ds)
  | [], _, h => by
    cases h
    exact .nil
  | d :: ds, _, h => by
    cases h with
    | cons h1 h2 => exact .cons (Rp.dp K d _ h1) (RpL.dp K ds _ h2)
end
mutual
theorem eqv_toP : ∀ d e : Dt, PyData.eqv (toP d) (toP e) = true ↔ d = e
  | .i n, .i m => by simp [toP, PyData.eqv]
  | .i n, .non => by simp [toP, PyData.eqv]
  | .i n, .t xs => by simp [toP, PyData.eqv]
  | .non, .i m => by simp [toP, PyData.eqv]
  | .non, .non => by simp [toP, PyData.eqv]
  | .non, .t xs => by simp [toP, PyData.eqv]
  | .t xs, .i m => by simp [toP, PyData.eqv]
  | .t xs, .non => by simp [toP, PyData.eqv]
  | .t xs, .t ys => by
    have h := eqv_toPs xs ys
    simp only [toP, PyData.eqv, h, Dt.t.injEq]
theorem eqv_toPs : ∀ ds es : List Dt, PyData.eqvAll (toPs ds) (toPs es) = true ↔ ds = es
  | [], [] => by simp [toPs, PyData.eqvAll]
  | [], e :: es => by simp [toPs, PyData.eqvAll]
  | d :: ds, [] => by simp [toPs, PyData.eqvAll]
  | d :: ds, e :: es => by
    have h1 := eqv_toP d e
    have h2 := eqv_toPs ds es
    simp only [toPs, PyData.eqvAll, Bool.and_eq_true, h1, h2, List.cons.injEq]
end
/-- at most so deep -/
def Dep : Nat → Dt → Prop
  | _, .i _ => True
  | _, .non => True
  | 0, .t _ => False
  | k + 1, .t xs => ∀ x ∈ xs, Dep k x
mutual
theorem lay_toP : ∀ d : Dt, (toP d).canLay0 = true
  | .i n => by simp [toP, PyData.canLay0]
  | .non => by simp [toP, PyData.canLay0]
  | .t xs => by
    have h := lay_toPs xs
    simp only [toP, PyData.canLay0, h]
theorem lay_toPs : ∀ ds : List Dt, PyData.canLayAll0 (toPs ds) = true
  | [] => by simp [toPs, PyData.canLayAll0]
  | d :: ds => by
    have h1 := lay_toP d
    have h2 := lay_toPs ds
    simp only [toPs, PyData.canLayAll0, h1, h2, Bool.and_self]
end
mutual
theorem dep_toP : ∀ (k : Nat) (d : Dt), Dep k d → (toP d).depth ≤ k
  | k, .i n, _ => by simp [toP, PyData.depth]
  | k, .non, _ => by simp [toP, PyData.depth]
  | 0, .t xs, h => by cases h
  | k + 1, .t xs, h => by
    have h1 := dep_toPs k xs h
    simp only [toP, PyData.depth]
    omega
theorem dep_toPs : ∀ (k : Nat) (ds : List Dt), (∀ d ∈ ds, Dep k d) → PyData.depthAll (toPs ds) ≤ k
  | k, [], _ => by simp [toPs, PyData.depthAll]
  | k, d :: ds, h => by
    have h1 := dep_toP k d (h d List.mem_cons_self)
    have h2 := dep_toPs k ds fun e he => h e (List.mem_cons_of_mem _ he)
    simp only [toPs, PyData.depthAll]
    omega
end
theorem shaped_toP {k : Nat} {d : Dt} (h : Dep k d) (hk : k ≤ 60) : SeqAt.shaped (toP d) = true := by
  have h1 := dep_toP k d h
  unfold SeqAt.shaped
  rw [lay_toP d]
  simp only [Bool.true_and, decide_eq_true_eq]
  omega

/-! ### a web's data -/
abbrev Tie := Int × Int
abbrev eT (ns : List Int) : Dt := .t (ns.map Dt.i)
abbrev eP (t : Tie) : Dt := .t [.i t.1, .i t.2]
abbrev eTs (ts : List Tie) : Dt := .t (ts.map eP)
abbrev eW (nums : List Int) (ts : List Tie) : Dt := .t [eT nums, eTs ts]
theorem eP_inj {t u : Tie} (h : eP t = eP u) : t = u := by
  have h' := Dt.t.inj h
  simp only [List.cons.injEq, Dt.i.injEq, and_true] at h'
  exact Prod.ext h'.1 h'.2
theorem eT_inj {a b : List Int} (h : eT a = eT b) : a = b := by
  have h' := Dt.t.inj h
  exact List.map_inj_right (fun x y h => by cases h; rfl) |>.mp h'
theorem dep_eP (k : Nat) (t : Tie) : Dep (k + 1) (eP t) := by
  intro x hx
  rcases List.mem_cons.mp hx with e | e
  · subst e
    cases k <;> exact True.intro
  · rw [List.mem_singleton.mp e]
    cases k <;> exact True.intro
theorem dep_eT (k : Nat) (ns : List Int) : Dep (k + 1) (eT ns) := by
  intro x hx
  obtain ⟨n, _, rfl⟩ := List.mem_map.mp hx
  cases k <;> exact True.intro
theorem dep_eTs (k : Nat) (ts : List Tie) : Dep (k + 2) (eTs ts) := by
  intro x hx
  obtain ⟨t, _, rfl⟩ := List.mem_map.mp hx
  exact dep_eP k t
theorem Rp.pair {H : Hp} {v : V} {t : Tie} (h : Rp H v (eP t)) : ∃ a, v = .ref a ∧ H a = some (.tup [.int t.1, .int t.2]) := by
  obtain ⟨a, xs, rfl, ha, hl⟩ := h.tup
  have e : xs = [t.1, t.2].map V.int := RpL.ints (ns := [t.1, t.2]) hl
  exact ⟨a, rfl, by rw [ha, e]; rfl⟩
theorem rp_pair {H : Hp} {a : Addr} {i j : Int} (h : H a = some (.tup [.int i, .int j])) : Rp H (.ref a) (eP (i, j)) := .t h (.cons (.i _) (.cons (.i _) .nil))
theorem Rp.tupI {H : Hp} {v : V} {ns : List Int} (h : Rp H v (eT ns)) : ∃ a, v = .ref a ∧ H a = some (.tup (ns.map V.int)) := by
  obtain ⟨a, xs, rfl, ha, hl⟩ := h.tup
  exact ⟨a, rfl, by rw [ha, hl.ints]⟩
theorem rp_tupI {H : Hp} {a : Addr} {ns : List Int} (h : H a = some (.tup (ns.map V.int))) : Rp H (.ref a) (eT ns) := .t h (rpl_ints ns)
theorem Rp.web {H : Hp} {v : V} {nums : List Int} {ts : List Tie} (h : Rp H v (eW nums ts)) :
    ∃ a b c, v = .ref a ∧ H a = some (.tup [.ref b, .ref c]) ∧ H b = some (.tup (nums.map V.int)) ∧ ∃ xs, H c = some (.tup xs) ∧ RpL H xs (ts.map eP) := by
  obtain ⟨a, xs, rfl, ha, hl⟩ := h.tup
  cases hl with
  | cons h1 h2 =>
    cases h2 with
    | cons h2 h3 =>
      cases h3
      obtain ⟨b, rfl, hb⟩ := h1.tupI
      obtain ⟨c, xs, rfl, hc, hl⟩ := h2.tup
      exact ⟨a, b, c, rfl, ha, hb, xs, hc, hl⟩

/-! ### a comprehension whose parts change nothing -/
section
variable {J : It} {n : Nat} {G : Hp → Prop} {Y : Nat → Hp → V → Hp → Prop}
theorem lcG {α β : Type} (as : List α) (ea : α → Dt) (t : α → Bool) (f : α → β) (Rl : Hp → V → β → Prop) (mono : ∀ H H' y b, SameT H H' → Rl H y b → Rl H' y b) (w : Walk J as.length G Y) {g : TG} {tt : TT} {te : TE} {vs : List Nat} {σ : L2.St} {H1 : Hp} {D : Addr} {Qd : Hp → Prop} (nD : H1 D = none)
    (hG : ∀ H, Same H1 H → G H) (hlen : as.length ≤ 5000) (hy : ∀ i x H H', i < as.length → Same H1 H → Y i H x H' → H' = H ∧ ∃ a, as[i]? = some a ∧ Rp H x (ea a))
    (hs : ∀ (a : α) (x : V) (H : Hp) (R : V → Hp → Prop) (R' : Hp → Prop), a ∈ as → Same H1 H → Rp H x (ea a) → (t a = true → ∀ y H', Same H H' → Rl H' y (f a) → R y H') → (t a = false → ∀ H', Same H H' → R' H') →
      g x (wipe σ vs) H fun σ2 H2 => wipe σ2 vs = wipe σ vs ∧ tt σ2 H2 fun b H3 => if b = true then te σ2 H3 R else R' H3)
    (hd : ∀ H ys, Same H1 H → H D = some (.lst ys) → Paired (fun y b => Rl H y b) ys ((as.filter t).map f) → Qd H) :
    ∃ W : Nat → Nat → Hp → Prop, (∃ m, W 0 m (upd H1 D (.lst []))) ∧ ∀ i m H, W i m H →
      (J.stop i H ∧ Qd H) ∨ (J.go i H ∧ ∃ Nx : Hp → Prop, (∀ H', Nx H' → ∃ m', m' < m ∧ W (i + 1) m' H') ∧ ∀ x H', J.yld i H x H' → g x (wipe σ vs) H' fun σ2 H2 => wipe σ2 vs = wipe σ vs ∧ tt σ2 H2 fun b H3 =>
        if b = true then te σ2 H3 fun y H4 => ∃ acc, H4 D = some (.lst acc) ∧ acc.length < sizeLine ∧ Nx (upd H4 D (.lst (acc ++ [y]))) else Nx H3) := by
  have pm : ∀ {H H' : Hp} {ys : List V} {bs : List β}, SameT H H' → Paired (fun y b => Rl H y b) ys bs → Paired (fun y b => Rl H' y b) ys bs := by
    intro H H' ys bs k h
    induction h with
    | nil => exact .nil
    | cons h1 _ ih => exact .cons (mono _ _ _ _ k h1) ih
  refine lc_it w (fun i H => Same H1 H ∧ ∃ acc, H D = some (.lst acc) ∧ Paired (fun y b => Rl H y b) acc (((as.take i).filter t).map f)) ⟨same_new nD, [], upd_same, .nil⟩ (fun i H _ p => hG H p.1) ?_ ?_
  · rintro i x H H' hi ⟨sm, acc, hD, rp⟩ y
    obtain ⟨rfl, a, ha, hx⟩ := hy i x H H' hi sm y
    have hm : a ∈ as := List.mem_of_getElem? ha
    have tk : as.take (i + 1) = as.take i ++ [a] := by
      rw [List.take_add_one, ha]
      rfl
    refine hs a x H' _ _ hm sm hx (fun ht y H4 s4 ry => ⟨acc, s4 _ _ hD, ?_, ?_, acc ++ [y], upd_same, ?_⟩) (fun ht H3 s3 => ⟨sm.trans s3, acc, s3 _ _ hD, ?_⟩)
    · have e := rp.length
      rw [List.length_map] at e
      have e1 := List.length_filter_le t (as.take i)
      have e2 : (as.take i).length ≤ as.length := by
        rw [List.length_take]
        omega
      rw [e, sizeLine_eq]
      omega
    · exact sOwn (sm.trans s4) nD
    · have h4 : H4 D = some (.lst acc) := s4 _ _ hD
      rw [tk, List.filter_append, List.map_append, List.filter_cons_of_pos ht]
      exact (pm (sameT_lst h4) (pm (same_t s4) rp)).snoc (mono _ _ _ _ (sameT_lst h4) ry)
    · rw [tk, List.filter_append, List.filter_cons_of_neg (by rw [ht]; exact Bool.false_ne_true), List.filter_nil, List.append_nil]
      exact pm (same_t s3) rp
  · rintro H ⟨sm, acc, hD, rp⟩
    rw [List.take_length] at rp
    exact hd H acc sm hD rp
theorem rpl_paired {β : Type} {eb : β → Dt} {H : Hp} {ys : List V} {bs : List β} (h : Paired (fun y b => Rp H y (eb b)) ys bs) : RpL H ys (bs.map eb) := by
  induction h with
  | nil => exact .nil
  | cons h1 _ ih => exact .cons h1 ih
theorem lcP {α β : Type} (as : List α) (ea : α → Dt) (t : α → Bool) (f : α → β) (eb : β → Dt) (w : Walk J as.length G Y) {g : TG} {tt : TT} {te : TE} {vs : List Nat} {σ : L2.St} {H1 : Hp} {D : Addr} {Qd : Hp → Prop} (nD : H1 D = none)
    (hG : ∀ H, Same H1 H → G H) (hlen : as.length ≤ 5000) (hy : ∀ i x H H', i < as.length → Same H1 H → Y i H x H' → H' = H ∧ ∃ a, as[i]? = some a ∧ Rp H x (ea a))
    (hs : ∀ (a : α) (x : V) (H : Hp) (R : V → Hp → Prop) (R' : Hp → Prop), a ∈ as → Same H1 H → Rp H x (ea a) → (t a = true → ∀ y H', Same H H' → Rp H' y (eb (f a)) → R y H') → (t a = false → ∀ H', Same H H' → R' H') →
      g x (wipe σ vs) H fun σ2 H2 => wipe σ2 vs = wipe σ vs ∧ tt σ2 H2 fun b H3 => if b = true then te σ2 H3 R else R' H3)
    (hd : ∀ H ys, Same H1 H → H D = some (.lst ys) → RpL H ys (((as.filter t).map f).map eb) → Qd H) :
    ∃ W : Nat → Nat → Hp → Prop, (∃ m, W 0 m (upd H1 D (.lst []))) ∧ ∀ i m H, W i m H →
      (J.stop i H ∧ Qd H) ∨ (J.go i H ∧ ∃ Nx : Hp → Prop, (∀ H', Nx H' → ∃ m', m' < m ∧ W (i + 1) m' H') ∧ ∀ x H', J.yld i H x H' → g x (wipe σ vs) H' fun σ2 H2 => wipe σ2 vs = wipe σ vs ∧ tt σ2 H2 fun b H3 =>
        if b = true then te σ2 H3 fun y H4 => ∃ acc, H4 D = some (.lst acc) ∧ acc.length < sizeLine ∧ Nx (upd H4 D (.lst (acc ++ [y]))) else Nx H3) :=
  lcG as ea t f (fun H y b => Rp H y (eb b)) (fun H H' y b k r => r.keep k) w nD hG hlen hy hs fun H ys sm hD r => hd H ys sm hD (rpl_paired r)
theorem walkT {K : PySem.W.Frag} {a : Addr} {xs : List V} {m : Nat} (h : xs.length = m) : Walk (Itt K a) m (fun H => SqT K H a xs) (YAt xs) := h ▸ walk_tup
theorem walkL {K : PySem.W.Frag} {a : Addr} {xs : List V} {m : Nat} (h : xs.length = m) : Walk (Itl K a) m (fun H => SqL K H a xs) (YAt xs) := h ▸ walk_list
theorem yAt {α : Type} {as : List α} {ea : α → Dt} {xs : List V} {H1 : Hp} (hx : RpL H1 xs (as.map ea)) : ∀ i x H H', i < as.length → Same H1 H → YAt xs i H x H' → H' = H ∧ ∃ a, as[i]? = some a ∧ Rp H x (ea a) := by
  rintro i x H H' hi sm ⟨rfl, e⟩
  obtain ⟨d, hd, r⟩ := hx.get' e
  rw [List.getElem?_map, List.getElem?_eq_getElem hi] at hd
  have e' := Option.some.inj hd
  subst e'
  exact ⟨rfl, _, List.getElem?_eq_getElem hi, r.keep (same_t sm)⟩
theorem yFn {lo : Int} {n : Nat} {H1 : Hp} : ∀ i x H H', i < (rgI lo n).length → Same H1 H → YFn (fun i => .int (lo + i)) i H x H' → H' = H ∧ ∃ a, (rgI lo n)[i]? = some a ∧ Rp H x (Dt.i a) := by
  rintro i x H H' hi sm ⟨rfl, rfl⟩
  rw [rgI_len] at hi
  exact ⟨rfl, _, rgI_get hi, .i _⟩
end
theorem rgV_eq (n : Nat) : rgV 0 (n : Int) = (evb n).map V.int := by
  unfold rgV evb rgI
  rw [List.map_map]
  have e : ((n : Int) - 0).toNat = n := by omega
  rw [e]
  rfl

/-! ### the text -/
def topS (i : Nat) : Stmt := PySem.Challenge.pw_duelwebs_k16_whole_ties_of_heads.main.body.getD i (.Pass ⟨0, 0, 0, 0⟩)

/-- a def of the text stands under its name -/
structure Stand (K : PySem.W.Frag) (mg : Str → Option Value) (x : Str) (st : Stmt) : Prop where
  ex : ∃ (f : Addr) (fd : FuncData), mg x = some (.ref f) ∧ Fun K x x st f fd
/-- a def that may be called by its name -/
structure Cal (P : Program) (w : World) (K : PySem.W.Frag) (mg : Str → Option Value) (base : Heap) (k : Nat) (x : Str) (sp : Sp) : Prop where
  ex : ∃ (f : Addr) (fd : FuncData) (ps : List Str), FnOk P w K mg base CX0 k f fd ps sp ∧ mg x = some (.ref f) ∧ PySem.W.keepIn K (.ref f) = true ∧ Binds K fd ps []
section
variable {P : Program} {w : World} {K : PySem.W.Frag} {mg : Str → Option Value} {base : Heap}
theorem cal_of {x : Str} {st : Stmt} {N ps : List Str} {k : Nat} {sp : Sp} (D : Stand K mg x st) (S : FnScope N ps (defScope st))
    (hb : ∀ (kV doc pm : Value) (an : Option Addr) (cdv ct : Value) (us : List Value), us.length = ps.length → bindArgs (PySem.W.fnOf x x (defArgs st) (defBody st) (defScope st) .none kV doc pm an cdv ct) ⟨us, []⟩ = pure (ps.zip us))
    (len : ∀ vs H Q E, sp vs H Q E → vs.length = ps.length)
    (hbody : ∀ (f : Addr) (cdv : Value) (A : Around) (outer : List Env) (s : Shared) (H : Hp) (vs : List V) (Q : VK) (E : XK), Room k (A.deeper (envOfC x (defScope st) s.heap.objs.size f cdv)) → sp vs H Q E →
      ∃ t, PSs (cxOf CX0 P w K mg base N x (defScope st) f cdv A outer s H E).nox (defBody st) t ∧ t { nx := fun _ H' => Q .non H', rt := Q } (start N vs) H) : Cal P w K mg base (k + 1) x sp := by
  obtain ⟨f, fd, hm, F⟩ := D.ex
  exact ⟨f, fd, ps, F.ok S len (fun cdv A outer s H vs Q E hr h => hbody f cdv A outer s H vs Q E hr h), hm, F.kp, F.binds hb⟩
end
section
variable {X : Cx} {k j : Nat} {x : Str} {sp : Sp} {p pos : Pos} {e : Expr} {es : List Expr} {t : TA}
theorem pcl (c : Cal X.prog X.w X.K X.mg X.base k x sp) (hr : Room j X.A) (hk : k ≤ j) (hg : Gl X x) (ha : PA X (e :: es) t)
    (hdb : (x == ("__debug__" : Str)) = false := by decide) (he : starEach (e :: es) X.env = (false, eval e X.env) :: starEach es X.env := by rfl) (hpl : (backTo pos (starEach es X.env)).any (·.1) = false := by rfl) :
    PE X (.Call (.Name x p) (e :: es) [] pos) (tCall sp [] E0 t) := by
  obtain ⟨f, fd, ps, F, hm, kp, b⟩ := c.ex
  exact pe_call F (hr.mono hk) hg hm kp b .nil pass0 ha hdb he hpl
end
/-- the built-ins that the text uses by name -/
structure Blt (mg : Str → Option Value) : Prop where
  isi : mg "isinstance" = none
  int : mg "int" = none
  bool : mg "bool" = none
  tuple : mg "tuple" = none
  list : mg "list" = none
  str : mg "str" = none
  len : mg "len" = none
  all : mg "all" = none
  any : mg "any" = none
  enum : mg "enumerate" = none
  range : mg "range" = none
  sorted : mg "sorted" = none
  min : mg "min" = none
  max : mg "max" = none
  set : mg "set" = none

/-! the layer's rules with the written part by name: within a comprehension's block -/
section
variable {X : Cx}
theorem ixT (K : PySem.W.Frag) (h : X.K = K := by rfl) : IxR X (rIxT K) := by
  subst h
  exact ix_tup
theorem ixL (K : PySem.W.Frag) (h : X.K = K := by rfl) : IxR X (rIxL K) := by
  subst h
  exact ix_list
theorem opIn (K : PySem.W.Frag) (h : X.K = K := by rfl) : OpR X (compareOp .In) (rIn K false) := by
  subst h
  exact op_in_seq
theorem opNotIn (K : PySem.W.Frag) (h : X.K = K := by rfl) : OpR X (compareOp .NotIn) (rIn K true) := by
  subst h
  exact op_notIn_seq
def rLen2 (K : PySem.W.Frag) : List V → Hp → VK → Prop := fun xs H Q => ∃ p ys, xs = [.ref p] ∧ (SqL K H p ys ∨ SqT K H p ys) ∧ Q (.int ys.length) H
theorem lenS (K : PySem.W.Frag) (h : X.K = K := by rfl) : CallR X (.builtin "len") (rLen2 K) := by
  subst h
  exact call_len_seq
theorem anyS (K : PySem.W.Frag) (hc : X.calm = true := by rfl) (h : X.K = K := by rfl) : CallR X (.builtin "any") (rAny K) := by
  subst h
  exact cr_any hc
theorem minS (K : PySem.W.Frag) (hc : X.calm = true := by rfl) (h : X.K = K := by rfl) : CallR X (.builtin "min") (rMin K) := by
  subst h
  exact cr_min hc
theorem eqS (K : PySem.W.Frag) (hu : X.A.units + 64 < cLine) (h : X.K = K := by rfl) : OpR X (compareOp .Eq) (rEqD K) := by
  subst h
  exact op_eqD hu
theorem neS (K : PySem.W.Frag) (hu : X.A.units + 64 < cLine) (h : X.K = K := by rfl) : OpR X (compareOp .NotEq) (rNeD K) := by
  subst h
  exact op_neD hu
theorem gtS (K : PySem.W.Frag) (hu : X.A.units < cLine) (h : X.K = K := by rfl) : OpR X (compareOp .Gt) (rGtT K) := by
  subst h
  exact op_gtT hu
theorem notInT (K : PySem.W.Frag) (hu : X.A.units + 65 < cLine) (h : X.K = K := by rfl) : OpR X (compareOp .NotIn) (rNotInT K) := by
  subst h
  exact op_notInT hu
theorem catS (K : PySem.W.Frag) (h : X.K = K := by rfl) : OpR X (binaryOp .Add) (rCatA K) := by
  subst h
  exact op_catA
theorem pgT (K : PySem.W.Frag) {es : List Expr} {k : Nat} {t : TGs} {n : Nat} {pos : Pos} (hc : X.calm = true) (h : PGs X es t) (hK : X.K = K := by rfl)
    (hn : (assignEach es X.env).length = n := by rfl) (hst : (assignEach es X.env).findIdx? (·.1) = none := by rfl) : PG X (.Tuple es k pos) (gTup K n t) := by
  subst hK
  exact pg_tup hc h hn hst
theorem piT (K : PySem.W.Frag) {tg e : Expr} {t : TE} (he : PE X e t) (h : X.K = K := by rfl) : PI X tg e (iTup K t) := by
  subst h
  exact pi_tup he
theorem piL (K : PySem.W.Frag) {tg e : Expr} {t : TE} (he : PE X e t) (h : X.K = K := by rfl) : PI X tg e (iList K t) := by
  subst h
  exact pi_list he
theorem tupOf (K : PySem.W.Frag) {a : Expr} {ta : TE} {p pos : Pos} (hg : Gl X "tuple") (hm : X.mg "tuple" = none) (ha : PE X a ta) (h : X.K = K := by rfl) (na : starEach [a] X.env = (false, eval a X.env) :: starEach [] X.env := by rfl) :
    PE X (.Call (.Name "tuple" p) [a] [] pos) (tThen ta (kTup K)) := by
  subst h
  exact pe_tupleOf hg hm ha na
end
end K16
namespace K16
open PySem PySem.Spec PyProof.Rows L2
section
variable {P : Program} {w : World} {K : PySem.W.Frag} {mg : Str → Option Value} {base : Heap}
/-! ### is_int -/
abbrev dIsInt : Stmt := topS 9
theorem scIsInt : FnScope ["value"] ["value"] (defScope dIsInt) := ⟨rfl, rfl, rfl, by decide +kernel, rfl, by decide +kernel, by decide +kernel⟩
def spIsInt : Sp := fun vs H Q _ => ∃ i : Int, vs = [.int i] ∧ Q (.bl true) H
theorem cIsInt (D : Stand K mg "is_int" dIsInt) (B : Blt mg) : Cal P w K mg base 1 "is_int" spIsInt := by
  refine cal_of D scIsInt (fun _ _ _ _ _ _ us hl => match us, hl with | [_], _ => rfl) (fun vs H Q E h => ?_) (fun f cdv A outer s H vs Q E hr h => ?_)
  · obtain ⟨i, rfl, _⟩ := h
    rfl
  · obtain ⟨i, rfl, q⟩ := h
    refine ⟨_, pss_one (ps_ret (pe_and (pe_callB call_isi (by rfl) B.isi (by decide +kernel) (pa_cons (pv 0) (pa_cons (pe_bltn (by rfl) B.int (by decide +kernel) (v := .ty "int") rfl) pa_nil)))
      (pe_one (pe_not (pe_callB call_isi (by rfl) B.isi (by decide +kernel) (pa_cons (pv 0) (pa_cons (pe_bltn (by rfl) B.bool (by decide +kernel) (v := .ty "bool") rfl) pa_nil))))))), ?_⟩
    refine ⟨.int i, rfl, .int i, .ty "int", .type "int", .type "int", true, rfl, .ty "int", .base (.int i), kit_ty (by decide +kernel), true, rfl, iteT ?_⟩
    exact ⟨.int i, rfl, .int i, .ty "bool", .type "int", .type "bool", false, rfl, .ty "bool", .base (.int i), kit_ty (by decide +kernel), false, rfl, q⟩
/-! ### is_from -/
abbrev dIsFrom : Stmt := topS 10
theorem scIsFrom : FnScope ["value", "least", "most"] ["value", "least", "most"] (defScope dIsFrom) := ⟨rfl, rfl, rfl, by decide +kernel, rfl, by decide +kernel, by decide +kernel⟩
def spIsFrom : Sp := fun vs H Q _ => ∃ i lo hi : Int, vs = [.int i, .int lo, .int hi] ∧ lo ≤ i ∧ i ≤ hi ∧ Q (.bl true) H
theorem cIsFrom (D : Stand K mg "is_from" dIsFrom) (C1 : Cal P w K mg base 1 "is_int" spIsInt) : Cal P w K mg base 2 "is_from" spIsFrom := by
  refine cal_of D scIsFrom (fun _ _ _ _ _ _ us hl => match us, hl with | [_, _, _], _ => rfl) (fun vs H Q E h => ?_) (fun f cdv A outer s H vs Q E hr h => ?_)
  · obtain ⟨i, lo, hi, rfl, _⟩ := h
    rfl
  · obtain ⟨i, lo, hi, rfl, h1, h2, q⟩ := h
    refine ⟨_, pss_one (ps_ret (pe_and (pcl C1 hr (by decide) (by rfl) (pa_cons (pv 0) pa_nil)) (pe_one (pe_chain op_le op_le (pv 1) (pv 0) (pv 2))))), ?_⟩
    refine ⟨.int i, rfl, i, rfl, true, rfl, iteT ?_⟩
    refine ⟨.int lo, rfl, .int i, rfl, lo, i, rfl, rfl, true, congrArg V.bl (decide_eq_true h1), iteT ?_⟩
    refine ⟨.int hi, rfl, i, hi, rfl, rfl, ?_⟩
    show Q (.bl (decide (i ≤ hi))) H
    rw [decide_eq_true h2]
    exact q
/-! ### is_tie -/
abbrev dIsTie : Stmt := topS 11
theorem scIsTie : FnScope ["value", "many"] ["value", "many"] (defScope dIsTie) := ⟨rfl, rfl, rfl, by decide +kernel, rfl, by decide +kernel, by decide +kernel⟩
def spIsTie : Sp := fun vs H Q _ => ∃ (v : V) (t : Tie) (n : Int), vs = [v, .int n] ∧ Rp H v (eP t) ∧ 0 ≤ t.1 ∧ t.1 < t.2 ∧ t.2 < n ∧ Q (.bl true) H
theorem cIsTie (D : Stand K mg "is_tie" dIsTie) (B : Blt mg) (C2 : Cal P w K mg base 2 "is_from" spIsFrom) : Cal P w K mg base 3 "is_tie" spIsTie := by
  refine cal_of D scIsTie (fun _ _ _ _ _ _ us hl => match us, hl with | [_, _], _ => rfl) (fun vs H Q E h => ?_) (fun f cdv A outer s H vs Q E hr h => ?_)
  · obtain ⟨v, t, n, rfl, _⟩ := h
    rfl
  · obtain ⟨v, t, n, rfl, hv, h1, h2, h3, q⟩ := h
    obtain ⟨a, rfl, ha⟩ := hv.pair
    refine ⟨_, pss_cons (ps_if (PW.pt (pw_or (pt_not (pt_val (pe_callB call_isi (by rfl) B.isi (by decide +kernel) (pa_cons (pv 0) (pa_cons (pe_bltn (by rfl) B.tuple (by decide +kernel) (v := .ty "tuple") rfl) pa_nil)))))
        (pw_or1 (pt_cmpR op_ne (pe_callB call_len_seq (by rfl) B.len PySem.boot_len (pa_cons (pv 0) pa_nil)) pe_int (nomark _))))) (pss_one (ps_ret pe_bl)) pss_nil)
      (pss_one (ps_ret (pe_and (pcl C2 hr (by decide) (by rfl) (pa_cons (pe_ix ix_tup (pv 0) pe_int (fun _ _ => rfl)) (pa_cons pe_int (pa_cons (pe_op op_sub (pv 1) pe_int) pa_nil))))
        (pe_and (pcl C2 hr (by decide) (by rfl) (pa_cons (pe_ix ix_tup (pv 0) pe_int (fun _ _ => rfl)) (pa_cons pe_int (pa_cons (pe_op op_sub (pv 1) pe_int) pa_nil))))
        (pe_one (pe_cmpR op_lt (pe_ix ix_tup (pv 0) pe_int (fun _ _ => rfl)) (pe_ix ix_tup (pv 0) pe_int (fun _ _ => rfl)) (nomark _))))))), ?_⟩
    refine ⟨.ref a, rfl, .ref a, .ty "tuple", .type "tuple", .type "tuple", true, rfl, .ty "tuple", .base (.tup ha), kit_ty (by decide +kernel), true, rfl, iteF ?_⟩
    refine ⟨.ref a, rfl, a, _, rfl, .inr (SqT.of ha), rfl, _, rfl, iteNS rfl ?_⟩
    refine ⟨.ref a, rfl, a, _, 0, .int t.1, rfl, rfl, SqT.of ha, atI_nat (j := 0) rfl, .int n, rfl, n, 1, rfl, rfl, t.1, 0, n - 1, rfl, h1, by omega, true, rfl, iteT ?_⟩
    refine ⟨.ref a, rfl, a, _, 1, .int t.2, rfl, rfl, SqT.of ha, atI_nat (j := 1) rfl, .int n, rfl, n, 1, rfl, rfl, t.2, 0, n - 1, rfl, by omega, by omega, true, rfl, iteT ?_⟩
    refine ⟨.ref a, rfl, a, _, 0, .int t.1, rfl, rfl, SqT.of ha, atI_nat (j := 0) rfl, .ref a, rfl, a, _, 1, .int t.2, rfl, rfl, SqT.of ha, atI_nat (j := 1) rfl, t.1, t.2, rfl, rfl, ?_⟩
    show Q (.bl (decide (t.1 < t.2))) H
    rw [decide_eq_true h2]
    exact q
/-! ### everybody -/
abbrev dEvb : Stmt := topS 13
theorem scEvb : FnScope ["web"] ["web"] (defScope dEvb) := ⟨rfl, rfl, rfl, by decide +kernel, rfl, by decide +kernel, by decide +kernel⟩
def spEvb : Sp := fun vs H Q _ => ∃ (v : V) (nums : List Int) (ts : List Tie), vs = [v] ∧ Rp H v (eW nums ts) ∧ nums.length ≤ 8 ∧ ∀ H' r, Same H H' → Rp H' r (eT (evb nums.length)) → Q r H'
theorem cEvb (D : Stand K mg "everybody" dEvb) (B : Blt mg) : Cal P w K mg base 1 "everybody" spEvb := by
  refine cal_of D scEvb (fun _ _ _ _ _ _ us hl => match us, hl with | [_], _ => rfl) (fun vs H Q E h => ?_) (fun f cdv A outer s H vs Q E hr h => ?_)
  · obtain ⟨v, nums, ts, rfl, _⟩ := h
    rfl
  · obtain ⟨v, nums, ts, rfl, hv, hn, q⟩ := h
    obtain ⟨a, b, c, rfl, ha, hb, xs, hc, hl⟩ := hv.web
    refine ⟨_, pss_one (ps_ret (pe_tupRg rfl (by rfl) B.tuple (prg_1 (by rfl) B.range (pe_callB call_len_seq (by rfl) B.len PySem.boot_len (pa_cons (pe_ix ix_tup (pv 0) pe_int (fun _ _ => rfl)) pa_nil))))), ?_⟩
    refine ⟨.ref a, rfl, a, _, 0, .ref b, rfl, rfl, SqT.of ha, atI_nat (j := 0) rfl, b, _, rfl, .inr (SqT.of hb), _, rfl, RgOk.of_le (by omega) ?_ (by omega) (by omega), fun p np => ?_⟩
    · rw [List.length_map]
      omega
    · refine q _ _ (same_new np) (rp_tupI ?_)
      rw [upd_same, List.length_map, rgV_eq]
/-! ### need_person -/
abbrev dNeedP : Stmt := topS 16
theorem scNeedP : FnScope ["web", "value"] ["web", "value"] (defScope dNeedP) := ⟨rfl, rfl, rfl, by decide +kernel, rfl, by decide +kernel, by decide +kernel⟩
def spNeedP : Sp := fun vs H Q _ => ∃ (v : V) (nums : List Int) (ts : List Tie) (p : Int), vs = [v, .int p] ∧ Rp H v (eW nums ts) ∧ p ∈ evb nums.length ∧ Q .non H
theorem cNeedP (D : Stand K mg "need_person" dNeedP) (B : Blt mg) (C2 : Cal P w K mg base 2 "is_from" spIsFrom) : Cal P w K mg base 3 "need_person" spNeedP := by
  refine cal_of D scNeedP (fun _ _ _ _ _ _ us hl => match us, hl with | [_, _], _ => rfl) (fun vs H Q E h => ?_) (fun f cdv A outer s H vs Q E hr h => ?_)
  · obtain ⟨v, nums, ts, p, rfl, _⟩ := h
    rfl
  · obtain ⟨v, nums, ts, p, rfl, hv, hp, q⟩ := h
    obtain ⟨a, b, c, rfl, ha, hb, xs, hc, hl⟩ := hv.web
    have hb2 := mem_evb.mp hp
    refine ⟨_, pss_one (ps_if (pt_not (pt_val (pcl C2 hr (by decide) (by rfl) (pa_cons (pv 1) (pa_cons pe_int (pa_cons (pe_op op_sub (pe_callB call_len_seq (by rfl) B.len PySem.boot_len (pa_cons (pe_ix ix_tup (pv 0) pe_int (fun _ _ => rfl)) pa_nil)) pe_int) pa_nil))))))
      (pss_one ps_never) pss_nil), ?_⟩
    refine ⟨.int p, rfl, .ref a, rfl, a, _, 0, .ref b, rfl, rfl, SqT.of ha, atI_nat (j := 0) rfl, b, _, rfl, .inr (SqT.of hb), _, 1, rfl, rfl, p, 0, _, rfl, hb2.1, ?_, true, rfl, iteF ?_⟩
    · rw [List.length_map]
      omega
    · exact q
end
end K16
namespace K16
open PySem PySem.Spec PyProof.Rows L2
/-! ### neighbors, in the text's order -/
def nbs (ts : List Tie) (p : Int) : List Int := (ts.filter fun t => decide (p ∈ [t.1, t.2])).map fun t => t.1 + t.2 - p
theorem mem_nbs {ts : List Tie} {p z : Int} : z ∈ nbs ts p ↔ adj ts p z := by
  simp only [nbs, List.mem_map, List.mem_filter, decide_eq_true_eq, adj]
  constructor
  · rintro ⟨⟨a, b⟩, ⟨h1, h2⟩, rfl⟩
    rcases List.mem_cons.mp h2 with e | e
    · left
      have e' : p = a := e
      subst e'
      show (p, p + b - p) ∈ ts
      rw [show p + b - p = b by omega]
      exact h1
    · right
      have e' : p = b := List.mem_singleton.mp e
      subst e'
      show (a + p - p, p) ∈ ts
      rw [show a + p - p = a by omega]
      exact h1
  · rintro (h | h)
    · exact ⟨(p, z), ⟨h, by simp⟩, by show p + z - p = z; omega⟩
    · exact ⟨(z, p), ⟨h, by simp⟩, by show z + p - p = z; omega⟩
theorem nbs_len {ts : List Tie} {p : Int} : (nbs ts p).length ≤ ts.length := by
  unfold nbs
  rw [List.length_map]
  exact List.length_filter_le _ _
theorem inV_ints (p : Int) : ∀ ns : List Int, inV (.int p) (ns.map V.int) = decide (p ∈ ns)
  | [] => rfl
  | n :: ns => by
    have ih := inV_ints p ns
    unfold inV at ih ⊢
    rw [List.map_cons, List.any_cons, ih]
    show (n == p || decide (p ∈ ns)) = decide (p ∈ n :: ns)
    by_cases e : p = n
    · subst e
      simp
    · have e' : (n == p) = false := by
        rw [beq_eq_false_iff_ne]
        exact fun z => e z.symm
      rw [e', Bool.false_or]
      simp [e]
theorem flat_ints : ∀ ns : List Int, (ns.map V.int).all flatV = true
  | [] => rfl
  | n :: ns => by
    rw [List.map_cons, List.all_cons, flat_ints ns]
    rfl
theorem small60 {n : Nat} (h : n ≤ 5000) : n < sizeLine := by
  rw [sizeLine_eq]
  omega
section
variable {P : Program} {w : World} {K : PySem.W.Frag} {mg : Str → Option Value} {base : Heap}
/-! ### tied_to -/
abbrev dTied : Stmt := topS 14
theorem scTied : FnScope ["web", "person", "found", "one", "other"] ["web", "person"] (defScope dTied) := ⟨rfl, rfl, rfl, by decide +kernel, rfl, by decide +kernel, by decide +kernel⟩
/-- the neighbors as a new list, in any order -/
def spTied : Sp := fun vs H Q _ => ∃ (v : V) (nums : List Int) (ts : List Tie) (p : Int), vs = [v, .int p] ∧ Rp H v (eW nums ts) ∧ ts.length ≤ 60 ∧
  ∀ (H' : Hp) (o : Addr) (ns : List Int), Same H H' → H o = none → H' o = some (.lst (ns.map V.int)) → ns.length ≤ 60 → (∀ z, z ∈ ns ↔ adj ts p z) → Q (.ref o) H'
theorem cTied (D : Stand K mg "tied_to" dTied) (B : Blt mg) : Cal P w K mg base 1 "tied_to" spTied := by
  refine cal_of D scTied (fun _ _ _ _ _ _ us hl => match us, hl with | [_, _], _ => rfl) (fun vs H Q E h => ?_) (fun f cdv A outer s H vs Q E hr h => ?_)
  · obtain ⟨v, nums, ts, p, rfl, _⟩ := h
    rfl
  · obtain ⟨v, nums, ts, p, rfl, hv, hn, q⟩ := h
    obtain ⟨a, b, c, rfl, ha, hb, xs, hc, hl⟩ := hv.web
    refine ⟨_, pss_cons (ps_set (i := 2) scTied.nd rfl (.inl rfl) (pe_lst pa_nil))
      (pss_cons (ps_for PassesOwn.never rfl (pi_tup (pe_ix ix_tup (pv 0) pe_int (fun _ _ => rfl))) (pg_tup rfl (pgs_cons (pg_name (i := 3) scTied.nd rfl (.inl rfl)) (pgs_cons (pg_name (i := 4) scTied.nd rfl (.inl rfl)) pgs_nil)))
        (pss_one (ps_if (pt_cmpR op_in_seq (pv 1) (pe_tup (pa_cons (pv 3) (pa_cons (pv 4) pa_nil))) (by rfl))
          (pss_one (ps_expr (pe_bm PySem.F.plainAttrs_list PySem.F.slot_list_append PySem.F.type_list_append mt_append (pv 2) (pa_cons (pe_op op_sub (pe_op op_add (pv 3) (pv 4)) (pv 1)) pa_nil)))) pss_nil)))
      (pss_one (ps_ret (pe_callB cr_sortedI (by rfl) B.sorted (by decide +kernel) (pa_cons (pv 2) pa_nil))))), ?_⟩
    refine ⟨Nat.zero_le _, fun o no => ?_⟩
    have s1 : Same H (upd H o (.lst [])) := same_new no
    refine ⟨.ref a, rfl, a, _, 1, .ref c, rfl, rfl, SqT.of (s1 _ _ ha), atI_nat (j := 1) rfl, c, rfl, ⟨xs, SqT.of (s1 _ _ hc)⟩, ?_⟩
    have hlen : xs.length = ts.length := by rw [hl.len, List.length_map]
    refine for_it (walk_tup (xs := xs)) (fun i σ H' => ∃ y3 y4, σ = [some (.ref a), some (.int p), some (.ref o), y3, y4] ∧ Same H H' ∧ H' o = some (.lst ((nbs (ts.take i) p).map V.int)))
      ⟨none, none, rfl, s1, upd_same⟩ (fun i σ H' _ ⟨_, _, _, sm, _⟩ => SqT.of (sm _ _ hc)) ?_ ?_
    · rintro i x σ H' H'' hi ⟨y3, y4, rfl, sm, ho⟩ ⟨rfl, hx⟩
      rw [hlen] at hi
      obtain ⟨d, hd, rx⟩ := hl.get' hx
      rw [List.getElem?_map, List.getElem?_eq_getElem hi] at hd
      have hd' := Option.some.inj hd
      subst hd'
      obtain ⟨e, rfl, he⟩ := (rx.keep (same_t sm)).pair
      have tk : ts.take (i + 1) = ts.take i ++ [ts[i]] := by
        rw [List.take_add_one, List.getElem?_eq_getElem hi]
        rfl
      generalize ts[i] = t at he tk
      refine ⟨e, _, rfl, SqT.of he, rfl, .int t.1, _, rfl, .int t.2, [], rfl, rfl, ?_⟩
      refine ⟨.int p, rfl, .int t.1, rfl, .int t.2, rfl, by show 2 ≤ sizeLine; decide, fun u nu => ?_⟩
      have nuo : o ≠ u := ne_of_none ho nu
      refine ⟨u, _, rfl, .inr (SqT.of upd_same), rfl, rfl, _, rfl, ?_⟩
      have ein : inV (.int p) [V.int t.1, V.int t.2] = decide (p ∈ [t.1, t.2]) := inV_ints p [t.1, t.2]
      show if (inV (.int p) [V.int t.1, V.int t.2]) = true then _ else _
      rw [ein]
      have ho2 : (upd H'' u (.tup [V.int t.1, V.int t.2])) o = some (.lst ((nbs (ts.take i) p).map V.int)) := by
        rw [upd_ne nuo]
        exact ho
      have sm2 : Same H (upd H'' u (.tup [V.int t.1, V.int t.2])) := sUpd sm nu
      by_cases c : p ∈ [t.1, t.2]
      · rw [decide_eq_true c]
        refine iteT ?_
        refine ⟨.ref o, rfl, .inl ⟨rfl, _, SqL.of ho2⟩, .int t.1, rfl, .int t.2, rfl, t.1, t.2, rfl, rfl, .int p, rfl, t.1 + t.2, p, rfl, rfl, o, _, _, rfl, rfl, ho2, ?_, ?_⟩
        · rw [List.length_map]
          have := nbs_len (ts := ts.take i) (p := p)
          rw [List.length_take] at this
          exact small60 (by omega)
        · refine ⟨_, _, rfl, sOwn sm2 no, ?_⟩
          rw [upd_same, tk]
          unfold nbs
          rw [List.filter_append, List.map_append, List.map_append, List.filter_cons_of_pos (by simpa using c)]
          rfl
      · rw [decide_eq_false c]
        refine iteF ⟨_, _, rfl, sm2, ?_⟩
        rw [ho2, tk]
        unfold nbs
        rw [List.filter_append, List.filter_cons_of_neg (by simpa using c), List.filter_nil, List.append_nil]
    · rintro σ H' ⟨y3, y4, rfl, sm, ho⟩
      rw [hlen, List.take_length] at ho
      refine ⟨.ref o, rfl, o, _, rfl, SqL.of ho, fun ns u hp _ nu => ?_⟩
      refine q _ u ns (sUpd sm nu) ?_ upd_same ?_ fun z => ?_
      · exact Same.free sm nu
      · have := nbs_len (ts := ts) (p := p)
        rw [hp.length_eq]
        omega
      · rw [hp.mem_iff]
        exact mem_nbs
end
end K16
namespace K16
open PySem PySem.Spec PyProof.Rows L2
section
variable {P : Program} {w : World} {K : PySem.W.Frag} {mg : Str → Option Value} {base : Heap}
/-! ### others -/
abbrev dOthers : Stmt := topS 18
theorem scOthers : FnScope ["web", "lot", "one"] ["web", "lot"] (defScope dOthers) := ⟨rfl, rfl, rfl, by decide +kernel, rfl, by decide +kernel, by decide +kernel⟩
def spOthers : Sp := fun vs H Q _ => ∃ (v u : V) (nums : List Int) (ts : List Tie) (p : Int), vs = [v, u] ∧ Rp H v (eW nums ts) ∧ nums.length ≤ 8 ∧ Rp H u (eT [p]) ∧ ∀ H' r, Same H H' → Rp H' r (eT (oth nums.length p)) → Q r H'
theorem cOthers (D : Stand K mg "others" dOthers) (B : Blt mg) (C1 : Cal P w K mg base 1 "everybody" spEvb) : Cal P w K mg base 2 "others" spOthers := by
  refine cal_of D scOthers (fun _ _ _ _ _ _ us hl => match us, hl with | [_, _], _ => rfl) (fun vs H Q E h => ?_) (fun f cdv A outer s H vs Q E hr h => ?_)
  · obtain ⟨v, u, nums, ts, p, rfl, _⟩ := h
    rfl
  · obtain ⟨v, u, nums, ts, p, rfl, hv, hn, hu, q⟩ := h
    refine ⟨_, pss_one (ps_ret (pe_tupleOf (by rfl) B.tuple (pe_lc (own := [("one", 2)]) (g := gName 2) rfl scOthers.nd (pi_tup (pcl C1 hr (by decide) (by rfl) (pa_cons (pv 0) pa_nil)))
      (blkOk_by (N := ["web", "lot", "one"]) (sc := defScope dOthers) (by decide +kernel)) (fun _ _ _ _ _ => pg_name (i := 2) scOthers.nd rfl (Or.inl rfl))
      (fun _ _ _ _ _ => pts_one (pt_cmpR (opNotIn K) (pv 2) (pv 1) (by rfl))) (fun _ _ _ _ _ => pv 2)))), ?_⟩
    refine ⟨v, rfl, v, nums, ts, rfl, hv, hn, fun H1 r s1 hr1 => ?_⟩
    obtain ⟨e, rfl, he⟩ := hr1.tupI
    obtain ⟨b, rfl, hb⟩ := hu.tupI
    refine ⟨e, rfl, ⟨_, SqT.of he⟩, fun D nD => lcP (evb nums.length) Dt.i (fun x => !decide (x ∈ [p])) id Dt.i (walkT (by rw [List.length_map])) nD (fun H2 s2 => SqT.of (s2 _ _ he)) (by rw [evb_len]; omega) (yAt (rpl_ints _)) ?_ ?_⟩
    · intro x y H2 R R' hx s2 ry hT hF
      cases ry
      refine ⟨rfl, .int x, rfl, .ref b, rfl, b, _, rfl, .inr (SqT.of (s2 _ _ (s1 _ _ hb))), rfl, flat_ints _, _, rfl, ?_⟩
      show if (!inV (.int x) ([p].map V.int)) = true then _ else _
      rw [inV_ints]
      by_cases c : x ∈ [p]
      · rw [decide_eq_true c]
        exact iteF (hF (by rw [decide_eq_true c]; rfl) _ (Same.refl _))
      · rw [decide_eq_false c]
        exact iteT ⟨.int x, rfl, hT (by rw [decide_eq_false c]; rfl) _ _ (Same.refl _) (.i x)⟩
    · intro H2 ys s2 hD rp
      refine .inl ⟨D, ys, rfl, SqL.of hD, fun o no => q _ _ (sUpd (s1.trans s2) no) (Rp.new no ?_)⟩
      rw [List.map_id] at rp
      exact rp
/-! ### least_of -/
abbrev dLeast : Stmt := topS 20
theorem scLeast : FnScope ["web", "lot", "one"] ["web", "lot"] (defScope dLeast) := ⟨rfl, rfl, rfl, by decide +kernel, rfl, by decide +kernel, by decide +kernel⟩
def spLeast : Sp := fun vs H Q _ => ∃ (v u : V) (nums : List Int) (ts : List Tie) (lot : List Int), vs = [v, u] ∧ Rp H v (eW nums ts) ∧ Rp H u (eT lot) ∧ 0 < lot.length ∧ lot.length ≤ 8 ∧ (∀ x ∈ lot, x ∈ evb nums.length) ∧
  ∀ H' m, Same H H' → (∃ x ∈ lot, numOf nums x = m) → (∀ x ∈ lot, m ≤ numOf nums x) → Q (.int m) H'
theorem cLeast (D : Stand K mg "least_of" dLeast) (B : Blt mg) : Cal P w K mg base 1 "least_of" spLeast := by
  refine cal_of D scLeast (fun _ _ _ _ _ _ us hl => match us, hl with | [_, _], _ => rfl) (fun vs H Q E h => ?_) (fun f cdv A outer s H vs Q E hr h => ?_)
  · obtain ⟨v, u, nums, ts, lot, rfl, _⟩ := h
    rfl
  · obtain ⟨v, u, nums, ts, lot, rfl, hv, hu, h0, h8, hin, q⟩ := h
    obtain ⟨a, b, c, rfl, ha, hb, xs, hc, hl⟩ := hv.web
    obtain ⟨e, rfl, he⟩ := hu.tupI
    refine ⟨_, pss_one (ps_ret (pe_callB (cr_min rfl) (by rfl) B.min (by decide +kernel) (pa_cons (pe_lc (own := [("one", 2)]) (g := gName 2) rfl scLeast.nd (pi_tup (pv 1))
      (blkOk_by (N := ["web", "lot", "one"]) (sc := defScope dLeast) (by decide +kernel)) (fun _ _ _ _ _ => pg_name (i := 2) scLeast.nd rfl (Or.inl rfl))
      (fun _ _ _ _ _ => pts_nil) (fun _ _ _ _ _ => pe_ix (ixT K) (pe_ix (ixT K) (pv 0) pe_int (fun _ _ => rfl)) (pv 2) (fun _ _ => rfl))) pa_nil))), ?_⟩
    refine ⟨.ref e, rfl, e, rfl, ⟨_, SqT.of he⟩, fun D nD => lcP lot Dt.i (fun _ => true) (numOf nums) Dt.i (walkT (by rw [List.length_map])) nD (fun H2 s2 => SqT.of (s2 _ _ he)) (by omega) (yAt (rpl_ints _)) ?_ ?_⟩
    · intro x y H2 R R' hx s2 ry hT hF
      cases ry
      have hg := numOf_get (hin x hx)
      have hx0 := (mem_evb.mp (hin x hx)).1
      have gx : atI (nums.map V.int) x = some (.int (numOf nums x)) := by
        have ex : x = ((x.toNat : Nat) : Int) := by omega
        rw [ex]
        refine atI_nat ?_
        rw [List.getElem?_map, ← ex, hg]
        rfl
      refine ⟨rfl, (iteT ?_ : if true = true then _ else R' H2)⟩
      exact ⟨.ref a, rfl, a, _, 0, .ref b, rfl, rfl, SqT.of (s2 _ _ ha), atI_nat (j := 0) rfl, .int x, rfl, b, _, x, _, rfl, rfl, SqT.of (s2 _ _ hb), gx, hT rfl _ _ (Same.refl _) (.i _)⟩
    · intro H2 ys s2 hD rp
      have ey := rp.ints
      subst ey
      refine ⟨D, _, rfl, SqL.of hD, ?_, fun m hm hle => q H2 m s2 ?_ fun x hx => ?_⟩
      · rw [List.length_map, List.filter_eq_self.mpr fun _ _ => rfl]
        exact h0
      · obtain ⟨x, hx, e⟩ := List.mem_map.mp hm
        exact ⟨x, (List.mem_filter.mp hx).1, e⟩
      · exact hle _ (List.mem_map.mpr ⟨x, by simp [hx], rfl⟩)
end
end K16
namespace K16
open PySem PySem.Spec PyProof.Rows L2
/-! ### scopes of comprehensions -/
def retE : Stmt → Expr
  | .Return (some e) _ => e
  | _ => .Constant .none 0 ⟨0, 0, 0, 0⟩
def arg0 : Expr → Expr
  | .Call _ (a :: _) _ _ => a
  | _ => .Constant .none 0 ⟨0, 0, 0, 0⟩
def lcScope : Expr → Scope
  | .ListComp _ _ sc _ => sc
  | _ => { kind := .function, names := [], isGenerator := false, isCoroutine := false }
def nthS (st : Stmt) (i : Nat) : Stmt := (defBody st).getD i (.Pass ⟨0, 0, 0, 0⟩)
theorem bool_any {K : PySem.W.Frag} {H : Hp} {ys : List V} {bs : List Bool} (h : Paired (fun y b => y = V.bl b) ys bs) : ys = bs.map V.bl := by
  induction h with
  | nil => rfl
  | cons h1 _ ih => rw [h1, ih]; rfl
section
variable {P : Program} {w : World} {K : PySem.W.Frag} {mg : Str → Option Value} {base : Heap}
/-! ### border_of -/
abbrev dBorder : Stmt := topS 19
theorem scBorder : FnScope ["web", "part", "lot", "one", "other"] ["web", "part", "lot"] (defScope dBorder) := ⟨rfl, rfl, rfl, by decide +kernel, rfl, by decide +kernel, by decide +kernel⟩
def spBorder : Sp := fun vs H Q _ => ∃ (v u x : V) (nums : List Int) (ts : List Tie) (part : List Int) (p : Int), vs = [v, u, x] ∧ Rp H v (eW nums ts) ∧ ts.length ≤ 60 ∧ Rp H u (eT part) ∧ Rp H x (eT [p]) ∧ (∃ z ∈ part, adj ts p z) ∧
  ∀ H' r, Same H H' → Rp H' r (eT [p]) → Q r H'
theorem cBorder (D : Stand K mg "border_of" dBorder) (B : Blt mg) (C1 : Cal P w K mg base 1 "tied_to" spTied) : Cal P w K mg base 2 "border_of" spBorder := by
  refine cal_of D scBorder (fun _ _ _ _ _ _ us hl => match us, hl with | [_, _, _], _ => rfl) (fun vs H Q E h => ?_) (fun f cdv A outer s H vs Q E hr h => ?_)
  · obtain ⟨v, u, x, nums, ts, part, p, rfl, _⟩ := h
    rfl
  · obtain ⟨v, u, x, nums, ts, part, p, rfl, hv, hn, hu, hx, hz, q⟩ := h
    obtain ⟨c, rfl, hc⟩ := hu.tupI
    obtain ⟨d, rfl, hd⟩ := hx.tupI
    refine ⟨_, pss_one (ps_ret (pe_tupleOf (by rfl) B.tuple (pe_lc (own := [("one", 3)]) (g := gName 3) rfl scBorder.nd (pi_tup (pv 2))
      (blkOk_by (N := ["web", "part", "lot", "one", "other"]) (sc := defScope dBorder) (by decide +kernel)) (fun _ _ _ _ _ => pg_name (i := 3) scBorder.nd rfl (Or.inl rfl))
      (fun _ _ _ _ _ => pts_one (pt_val (pe_callB (anyS K) (by rfl) B.any (by decide +kernel) (pa_cons (pe_lc (own := [("other", 4)]) (g := gName 4) rfl scBorder.nd (piL K (pcl C1 hr (by decide) (by rfl) (pa_cons (pv 0) (pa_cons (pv 3) pa_nil))))
        (blkOk_by (N := ["web", "part", "lot", "one", "other"]) (sc := relS (lcScope (arg0 (retE (nthS dBorder 0)))) (defScope dBorder)) (by decide +kernel)) (fun _ _ _ _ _ => pg_name (i := 4) scBorder.nd rfl (Or.inl rfl))
        (fun _ _ _ _ _ => pts_nil) (fun _ _ _ _ _ => pe_cmpR (opIn K) (pv 4) (pv 1) (by rfl))) pa_nil)))) (fun _ _ _ _ _ => pv 3)))), ?_⟩
    refine ⟨.ref d, rfl, d, rfl, ⟨_, SqT.of hd⟩, fun D nD => lcP [p] Dt.i (fun _ => true) id Dt.i (walkT rfl) nD (fun H2 s2 => SqT.of (s2 _ _ hd)) (by show 1 ≤ 5000; decide) (yAt (rpl_ints _)) ?_ ?_⟩
    · intro a y H2 R R' ha s2 ry hT hF
      cases ry
      have ea : a = p := List.mem_singleton.mp ha
      subst ea
      refine ⟨rfl, v, rfl, .int a, rfl, v, nums, ts, a, rfl, hv.keep (same_t s2), hn, fun H3 o ns s3 no ho hl hm => ?_⟩
      refine ⟨o, rfl, ⟨_, SqL.of ho⟩, fun D2 nD2 => lcG ns Dt.i (fun _ => true) (fun z => decide (z ∈ part)) (fun _ y b => y = V.bl b) (fun _ _ _ _ _ h => h) (walkL (by rw [List.length_map])) nD2 (fun H4 s4 => SqL.of (s4 _ _ ho)) (by omega) (yAt (rpl_ints _)) ?_ ?_⟩
      · intro z y H4 R2 R2' hz s4 rz hT2 hF2
        cases rz
        refine ⟨rfl, (iteT ?_ : if true = true then _ else R2' H4)⟩
        refine ⟨.int z, rfl, .ref c, rfl, c, _, rfl, .inr (SqT.of (s4 _ _ (s3 _ _ (s2 _ _ hc)))), rfl, flat_ints _, ?_⟩
        exact hT2 rfl _ _ (Same.refl _) (congrArg V.bl (inV_ints z part))
      · intro H4 ys s4 hD2 rp
        have ey := bool_any (K := K) (H := H4) rp
        subst ey
        refine ⟨D2, _, rfl, SqL.of hD2, _, rfl, ?_⟩
        have e1 : ((ns.filter fun _ => true).map fun z => decide (z ∈ part)).any id = true := by
          obtain ⟨z, hz1, hz2⟩ := hz
          refine List.any_eq_true.mpr ⟨true, List.mem_map.mpr ⟨z, ?_, by simpa using hz1⟩, rfl⟩
          simp [(hm z).mpr hz2]
        rw [e1]
        exact iteT ⟨.int a, rfl, hT rfl _ _ (s3.trans s4) (.i a)⟩
    · intro H2 ys s2 hD rp
      exact .inl ⟨D, ys, rfl, SqL.of hD, fun o no => q _ _ (sUpd s2 no) (Rp.new no rp)⟩
end
end K16
namespace K16
open PySem PySem.Spec PyProof.Rows L2
/-! ### lists against [] -/
theorem shaped_list {k : Nat} {ds : List Dt} (h : ∀ d ∈ ds, Dep k d) (hk : k ≤ 60) : SeqAt.shaped (.list (toPs ds)) = true := by
  have h1 := dep_toPs k ds h
  have e : PyData.canLay0 (.list (toPs ds)) = true := by simp only [PyData.canLay0, lay_toPs]
  have e2 : PyData.depth (.list (toPs ds)) = PyData.depthAll (toPs ds) + 1 := by simp only [PyData.depth]
  unfold SeqAt.shaped
  rw [e, e2]
  simp only [Bool.true_and, decide_eq_true_eq]
  omega
theorem eqv_nil (ds : List Dt) : PyData.eqv (.list (toPs ds)) (.list []) = ds.isEmpty := by
  cases ds <;> simp [toPs, PyData.eqv, PyData.eqvAll]
theorem dp_list (K : PySem.W.Frag) {H : Hp} {a : Addr} {xs : List V} {ds : List Dt} (ha : H a = some (.lst xs)) (r : RpL H xs ds) : Dp K H (.ref a) (.list (toPs ds)) := .lst (SqL.of ha) (RpL.dp K ds xs r)
theorem shaped_nil : SeqAt.shaped (.list []) = true := shaped_list (ds := []) (k := 0) (fun d h => by simp at h) (by decide)
/-- xs != [], the empty list made new at q -/
theorem ne_nil (K : PySem.W.Frag) {H : Hp} {a q : Addr} {xs : List V} {ds : List Dt} {k : Nat} {Q : VK} (ha : H a = some (.lst xs)) (r : RpL H xs ds) (hd : ∀ d ∈ ds, Dep k d) (hk : k ≤ 60) (nq : H q = none)
    (h : Q (.bl (!ds.isEmpty)) (upd H q (.lst []))) : rNeD K (.ref a) (.ref q) (upd H q (.lst [])) Q := by
  have ha' : (upd H q (.lst [])) a = some (.lst xs) := by
    rw [upd_ne (ne_of_none ha nq)]
    exact ha
  refine ⟨_, _, dp_list K ha' (r.keep (sameT_new nq)), dp_list K (ds := []) upd_same .nil, shaped_list hd hk, shaped_nil, ?_⟩
  have e : PyData.eqv (.list (toPs ds)) (.list (toPs [])) = ds.isEmpty := eqv_nil ds
  rw [e]
  exact h
theorem eq_nil (K : PySem.W.Frag) {H : Hp} {a q : Addr} {xs : List V} {ds : List Dt} {k : Nat} {Q : VK} (ha : H a = some (.lst xs)) (r : RpL H xs ds) (hd : ∀ d ∈ ds, Dep k d) (hk : k ≤ 60) (nq : H q = none)
    (h : Q (.bl ds.isEmpty) (upd H q (.lst []))) : rEqD K (.ref a) (.ref q) (upd H q (.lst [])) Q := by
  have ha' : (upd H q (.lst [])) a = some (.lst xs) := by
    rw [upd_ne (ne_of_none ha nq)]
    exact ha
  refine ⟨_, _, dp_list K ha' (r.keep (sameT_new nq)), dp_list K (ds := []) upd_same .nil, shaped_list hd hk, shaped_nil, ?_⟩
  have e : PyData.eqv (.list (toPs ds)) (.list (toPs [])) = ds.isEmpty := eqv_nil ds
  rw [e]
  exact h
theorem dep_ints (ns : List Int) : ∀ d ∈ ns.map Dt.i, Dep 0 d := fun d h => by
  obtain ⟨n, _, rfl⟩ := List.mem_map.mp h
  exact True.intro
/-- a lot: a tuple or a list -/
def LotAt (H : Hp) (u : V) (lot : List Int) : Prop := ∃ l, u = .ref l ∧ (H l = some (.tup (lot.map V.int)) ∨ H l = some (.lst (lot.map V.int)))
theorem LotAt.sq {K : PySem.W.Frag} {H : Hp} {l : Addr} {lot : List Int} (h : H l = some (.tup (lot.map V.int)) ∨ H l = some (.lst (lot.map V.int))) : SqL K H l (lot.map V.int) ∨ SqT K H l (lot.map V.int) := by
  rcases h with h | h
  · exact .inr (SqT.of h)
  · exact .inl (SqL.of h)
section
variable {P : Program} {w : World} {K : PySem.W.Frag} {mg : Str → Option Value} {base : Heap}
/-! ### hanging -/
abbrev dHang : Stmt := topS 15
abbrev nHang : List Str := ["web", "person", "lot", "found", "edge", "here", "other"]
theorem scHang : FnScope nHang ["web", "person", "lot"] (defScope dHang) := ⟨rfl, rfl, rfl, by decide +kernel, rfl, by decide +kernel, by decide +kernel⟩
def spHang : Sp := fun vs H Q _ => ∃ (v u : V) (nums : List Int) (ts : List Tie) (lot : List Int) (p : Int), vs = [v, .int p, u] ∧ Rp H v (eW nums ts) ∧ ts.length ≤ 60 ∧ LotAt H u lot ∧ Asc lot ∧ lot.length ≤ 8 ∧ p ∈ lot ∧
  ∀ H' r, Same H H' → Rp H' r (eT (comp (adj ts) lot p)) → Q r H'
theorem cHang (D : Stand K mg "hanging" dHang) (B : Blt mg) (C1 : Cal P w K mg base 1 "tied_to" spTied) : Cal P w K mg base 2 "hanging" spHang := by
  refine cal_of D scHang (fun _ _ _ _ _ _ us hl => match us, hl with | [_, _, _], _ => rfl) (fun vs H Q E h => ?_) (fun f cdv A outer s H vs Q E hr h => ?_)
  · obtain ⟨v, u, nums, ts, lot, p, rfl, _⟩ := h
    rfl
  · obtain ⟨v, u, nums, ts, lot, p, rfl, hv, hn, ⟨l, rfl, hlot⟩, hasc, h8, hp, q⟩ := h
    refine ⟨_, pss_cons (ps_par (i := 3) (j := 4) rfl scHang.nd rfl rfl (by decide) rfl rfl (pa_cons (pe_lst (pa_cons (pv 1) pa_nil)) (pa_cons (pe_lst (pa_cons (pv 1) pa_nil)) pa_nil)) (by rfl))
      (pss_cons (ps_while PassesOwn.never (pt_cmpR (op_neD hr.units) (pv 4) (pe_lst pa_nil) (nomark _))
        (pss_cons (ps_set (i := 5) scHang.nd rfl (.inl rfl) (pe_bm0 PySem.F.plainAttrs_list PySem.F.slot_list_pop PySem.F.type_list_pop mt_pop (pv 4)))
        (pss_one (ps_for PassesOwn.never rfl (pi_list (pcl C1 hr (by decide) (by rfl) (pa_cons (pv 0) (pa_cons (pv 5) pa_nil)))) (pg_name (i := 6) scHang.nd rfl (.inl rfl))
          (pss_one (ps_if (PW.pt (pw_and (pt_cmpR op_in_seq (pv 6) (pv 2) (by rfl)) (pw_and1 (pt_cmpR op_notIn_seq (pv 6) (pv 3) (by rfl)))))
            (pss_cons (ps_expr (pe_bm PySem.F.plainAttrs_list PySem.F.slot_list_append PySem.F.type_list_append mt_append (pv 3) (pa_cons (pv 6) pa_nil)))
              (pss_one (ps_expr (pe_bm PySem.F.plainAttrs_list PySem.F.slot_list_append PySem.F.type_list_append mt_append (pv 4) (pa_cons (pv 6) pa_nil))))) pss_nil))))))
      (pss_one (ps_ret (pe_tupleOf (by rfl) B.tuple (pe_callB cr_sortedI (by rfl) B.sorted (by decide +kernel) (pa_cons (pv 3) pa_nil)))))), ?_⟩
    refine ⟨.int p, rfl, by show 1 ≤ sizeLine; decide, fun o1 n1 => ⟨.int p, rfl, by show 1 ≤ sizeLine; decide, fun o2 n2 => ⟨.ref o1, .ref o2, rfl, ?_⟩⟩⟩
    have n12 : o1 ≠ o2 := fun z => by
      rw [← z, upd_same] at n2
      cases n2
    have s1 : Same H (upd H o1 (.lst [V.int p])) := same_new n1
    have n2' : H o2 = none := Same.free s1 n2
    refine ⟨fun m σ H' => ∃ y5 y6 found edge, σ = [some v, some (.int p), some (.ref l), some (.ref o1), some (.ref o2), y5, y6] ∧ Same H H' ∧ H' o1 = some (.lst (found.map V.int)) ∧ H' o2 = some (.lst (edge.map V.int)) ∧
      Dfs (adj ts) lot p found edge ∧ m = meas lot found edge ∧ m ≤ 17, ⟨_, none, none, [p], [p], rfl, sUpd s1 n2, ?_, upd_same, Dfs.begin, rfl, ?_⟩, ?_⟩
    · rw [upd_ne n12, upd_same]
      rfl
    · simp only [meas, List.length_singleton]
      omega
    · rintro m σ H' ⟨y5, y6, found, edge, rfl, sm, h1, h2, d, rfl, h17⟩
      refine ⟨.ref o2, rfl, Nat.zero_le _, fun o3 n3 => ne_nil K h2 (rpl_ints edge) (dep_ints edge) (by decide) n3 ⟨_, rfl, ?_⟩⟩
      have s3 : Same H' (upd H' o3 (.lst [])) := same_new n3
      have g1 : (upd H' o3 (.lst [])) o1 = some (.lst (found.map V.int)) := s3 _ _ h1
      have g2 : (upd H' o3 (.lst [])) o2 = some (.lst (edge.map V.int)) := s3 _ _ h2
      have sm3 := sm.trans s3
      generalize upd H' o3 (.lst []) = H3 at g1 g2 sm3
      rcases List.eq_nil_or_concat edge with e0 | ⟨e', here, e0⟩
      · subst e0
        refine iteF ?_
        -- return
        refine ⟨.ref o1, rfl, o1, found, rfl, SqL.of g1, fun ns u hperm hs nu => .inl ⟨u, _, rfl, SqL.of upd_same, fun r nr => ?_⟩⟩
        have ec := found_comp d hp hasc hperm hs
        subst ec
        exact q _ _ (sUpd (sUpd sm3 nu) nr) (Rp.new nr (rpl_ints _))
      · rw [List.concat_eq_append] at e0
        subst e0
        have ne : (!((e' ++ [here]).map Dt.i).isEmpty) = true := by cases e' <;> rfl
        rw [ne]
        refine iteT ?_
        have hhere : here ∈ found := d.sub here (by simp)
        refine ⟨fun σ' H'' => ∃ m', m' < meas lot found (e' ++ [here]) ∧ ∃ y5 y6 found edge, σ' = [some v, some (.int p), some (.ref l), some (.ref o1), some (.ref o2), y5, y6] ∧ Same H H'' ∧ H'' o1 = some (.lst (found.map V.int)) ∧ H'' o2 = some (.lst (edge.map V.int)) ∧
          Dfs (adj ts) lot p found edge ∧ m' = meas lot found edge ∧ m' ≤ 17, fun σ' H'' z => z, ?_⟩
        -- here = edge.pop()
        refine ⟨.ref o2, rfl, .inl ⟨rfl, _, SqL.of g2⟩, o2, _, .int here, rfl, rfl, g2, by simp, ?_⟩
        have g2' : (upd H3 o2 (.lst ((e' ++ [here]).map V.int).dropLast)) o2 = some (.lst (e'.map V.int)) := by
          rw [upd_same]
          simp
        have g1' : (upd H3 o2 (.lst ((e' ++ [here]).map V.int).dropLast)) o1 = some (.lst (found.map V.int)) := by
          rw [upd_ne n12]
          exact g1
        have sm4 : Same H (upd H3 o2 (.lst ((e' ++ [here]).map V.int).dropLast)) := sOwn sm3 n2'
        generalize upd H3 o2 (.lst ((e' ++ [here]).map V.int).dropLast) = H4 at g1' g2' sm4
        refine ⟨v, rfl, .int here, rfl, v, nums, ts, here, rfl, hv.keep (same_t sm4), hn, fun H5 o5 nb s5 n5 ho5 hl5 hm5 => ?_⟩
        have no51 : o5 ≠ o1 := (ne_of_none g1' n5).symm
        have no52 : o5 ≠ o2 := (ne_of_none g2' n5).symm
        have dm : meas lot found e' + 1 = meas lot found (e' ++ [here]) := meas_pop
        refine ⟨o5, rfl, ⟨_, SqL.of ho5⟩, for_it (walkL (m := nb.length) (xs := nb.map V.int) (by rw [List.length_map])) (fun i σ' H'' => ∃ y6 found' edge', σ' = [some v, some (.int p), some (.ref l), some (.ref o1), some (.ref o2), some (.int here), y6] ∧ Same H H'' ∧ H'' o5 = some (.lst (nb.map V.int)) ∧
          H'' o1 = some (.lst (found'.map V.int)) ∧ H'' o2 = some (.lst (edge'.map V.int)) ∧ DfsI (adj ts) lot p here (nb.take i) found' edge' ∧ meas lot found' edge' ≤ meas lot found e') ⟨y6, found, e', rfl, sm4.trans s5, ho5, s5 _ _ g1', s5 _ _ g2', d.pop, Nat.le_refl _⟩
          (fun i σ' H'' _ ⟨_, _, _, _, _, h5, _⟩ => SqL.of h5) ?_ ?_⟩
        · rintro i x σ' H6 H6' hi ⟨y6, found', edge', rfl, sm6, k5, k1, k2, di, mi⟩ ⟨rfl, hx⟩
          rw [List.getElem?_map, List.getElem?_eq_getElem hi] at hx
          have hx' := Option.some.inj hx
          subst hx'
          have hz5 : nb[i] ∈ nb := List.getElem_mem hi
          have tk : nb.take (i + 1) = nb.take i ++ [nb[i]] := by
            rw [List.take_add_one, List.getElem?_eq_getElem hi]
            rfl
          have az := (hm5 nb[i]).mp hz5
          revert tk az
          generalize nb[i] = z
          intro tk az
          have hlot6 : H6' l = some (.tup (lot.map V.int)) ∨ H6' l = some (.lst (lot.map V.int)) := by
            rcases hlot with e | e
            · exact .inl (sm6 _ _ e)
            · exact .inr (sm6 _ _ e)
          refine ⟨.int z, rfl, .ref l, rfl, l, _, rfl, LotAt.sq hlot6, rfl, flat_ints _, _, rfl, ?_⟩
          show if (inV (.int z) (lot.map V.int)) = true then _ else _
          rw [inV_ints]
          by_cases c1 : z ∈ lot
          · rw [decide_eq_true c1]
            refine iteT ⟨.int z, rfl, .ref o1, rfl, o1, _, rfl, .inl (SqL.of k1), rfl, flat_ints _, _, rfl, ?_⟩
            show if (!inV (.int z) (found'.map V.int)) = true then _ else _
            rw [inV_ints]
            by_cases c2 : z ∈ found'
            · rw [decide_eq_true c2]
              refine iteF ⟨_, found', edge', rfl, sm6, k5, k1, k2, ?_, mi⟩
              rw [tk]
              exact di.skip fun _ => c2
            · rw [decide_eq_false c2]
              have dt := di.take c1 c2 az
              have dl := dt.len hp
              have fl : found'.length < sizeLine := by
                have := di.len hp
                exact small60 (by omega)
              have el : edge'.length < sizeLine := by
                have : edge'.length ≤ meas lot found' edge' := by
                  unfold meas
                  omega
                exact small60 (by omega)
              refine iteT ⟨.ref o1, rfl, .inl ⟨rfl, _, SqL.of k1⟩, .int z, rfl, o1, _, _, rfl, rfl, k1, by rw [List.length_map]; exact fl, ?_⟩
              have k2' : (upd H6' o1 (.lst (found'.map V.int ++ [.int z]))) o2 = some (.lst (edge'.map V.int)) := by
                rw [upd_ne n12.symm]
                exact k2
              refine ⟨.ref o2, rfl, .inl ⟨rfl, _, SqL.of k2'⟩, .int z, rfl, o2, _, _, rfl, rfl, k2', by rw [List.length_map]; exact el, ?_⟩
              refine ⟨_, found' ++ [z], edge' ++ [z], rfl, sOwn (sOwn sm6 n1) n2', ?_, ?_, ?_, ?_, ?_⟩
              · rw [upd_ne no52, upd_ne no51]
                exact k5
              · rw [upd_ne n12, upd_same, List.map_append]
                rfl
              · rw [upd_same, List.map_append]
                rfl
              · rw [tk]
                exact dt
              · exact Nat.le_trans (meas_take dl) mi
          · rw [decide_eq_false c1]
            refine iteF (iteF ⟨_, found', edge', rfl, sm6, k5, k1, k2, ?_, mi⟩)
            rw [tk]
            exact di.skip fun h => absurd h c1
        · rintro σ' H6 ⟨y6, found', edge', rfl, sm6, k5, k1, k2, di, mi⟩
          rw [List.take_length] at di
          refine ⟨meas lot found' edge', by omega, _, _, found', edge', rfl, sm6, k1, k2, di.fin fun z hz => (hm5 z).mpr hz, rfl, by omega⟩
end
end K16
namespace K16
open PySem PySem.Spec PyProof.Rows L2 Classical
abbrev eTT (xss : List (List Int)) : Dt := .t (xss.map eT)
theorem parts_len {A : Int → Int → Prop} {L : List Int} : (parts A L).length ≤ L.length := by
  unfold parts
  rw [List.length_map]
  exact List.length_filter_le _ _
theorem LotAt.keep {H H' : Hp} {u : V} {lot : List Int} (h : LotAt H u lot) (s : Same H H') : LotAt H' u lot := by
  obtain ⟨l, e, h | h⟩ := h
  · exact ⟨l, e, .inl (s _ _ h)⟩
  · exact ⟨l, e, .inr (s _ _ h)⟩
section
variable {P : Program} {w : World} {K : PySem.W.Frag} {mg : Str → Option Value} {base : Heap}
/-! ### parts_of -/
abbrev dParts : Stmt := topS 17
abbrev nParts : List Str := ["web", "lot", "found", "left", "part", "one"]
theorem scParts : FnScope nParts ["web", "lot"] (defScope dParts) := ⟨rfl, rfl, rfl, by decide +kernel, rfl, by decide +kernel, by decide +kernel⟩
def spParts : Sp := fun vs H Q _ => ∃ (v u : V) (nums : List Int) (ts : List Tie) (lot : List Int), vs = [v, u] ∧ Rp H v (eW nums ts) ∧ ts.length ≤ 60 ∧ LotAt H u lot ∧ Asc lot ∧ lot.length ≤ 8 ∧
  ∀ H' r, Same H H' → Rp H' r (eTT (parts (adj ts) lot)) → Q r H'
theorem cParts (D : Stand K mg "parts_of" dParts) (B : Blt mg) (C2 : Cal P w K mg base 2 "hanging" spHang) : Cal P w K mg base 3 "parts_of" spParts := by
  refine cal_of D scParts (fun _ _ _ _ _ _ us hl => match us, hl with | [_, _], _ => rfl) (fun vs H Q E h => ?_) (fun f cdv A outer s H vs Q E hr h => ?_)
  · obtain ⟨v, u, nums, ts, lot, rfl, _⟩ := h
    rfl
  · obtain ⟨v, u, nums, ts, lot, rfl, hv, hn, hlot, hasc, h8, q⟩ := h
    refine ⟨_, pss_cons (ps_par (i := 2) (j := 3) rfl scParts.nd rfl rfl (by decide) rfl rfl (pa_cons (pe_lst pa_nil) (pa_cons (pe_callTy call_list_of (by rfl) B.list (by decide +kernel) (pa_cons (pv 1) pa_nil)) pa_nil)) (by rfl))
      (pss_cons (ps_while PassesOwn.never (pt_cmpR (op_neD hr.units) (pv 3) (pe_lst pa_nil) (nomark _))
        (pss_cons (ps_set (i := 4) scParts.nd rfl (.inr rfl) (pcl C2 hr (by decide) (by rfl) (pa_cons (pv 0) (pa_cons (pe_ix ix_list (pv 3) pe_int (fun _ _ => rfl)) (pa_cons (pv 3) pa_nil)))))
        (pss_cons (ps_expr (pe_bm PySem.F.plainAttrs_list PySem.F.slot_list_append PySem.F.type_list_append mt_append (pv 2) (pa_cons (pv 4) pa_nil)))
        (pss_one (ps_setLc (i := 3) (own := [("one", 5)]) (g := gName 5) rfl scParts.nd rfl rfl (sw_true rfl rfl rfl (by decide +kernel)) (pi_list (pv 3))
          (blkOk_by (N := nParts) (sc := defScope dParts) (by decide +kernel)) (fun _ _ _ _ _ => pg_name (i := 5) scParts.nd rfl (Or.inl rfl))
          (fun _ _ _ _ _ => pts_one (pt_cmpR (opNotIn K) (pv 5) (pv 4) (by rfl))) (fun _ _ _ _ _ => pv 5))))))
      (pss_one (ps_ret (pe_tupleOf (by rfl) B.tuple (pv 2))))), ?_⟩
    refine ⟨Nat.zero_le _, fun o1 n1 => ?_⟩
    have s1 : Same H (upd H o1 (.lst [])) := same_new n1
    obtain ⟨l, rfl, hl⟩ := hlot.keep s1
    refine ⟨.ref l, rfl, l, _, rfl, LotAt.sq hl, fun lf nf => ⟨.ref o1, .ref lf, rfl, ?_⟩⟩
    have sy := adj_sym ts
    have g1 : (upd (upd H o1 (.lst [])) lf (.lst (lot.map V.int))) o1 = some (.lst []) := by
      rw [upd_ne (ne_of_none (upd_same (H := H) (a := o1) (o := .lst [])) nf), upd_same]
    refine ⟨fun m σ H' => ∃ y4 y5 lf left fs fx, σ = [some v, some (.ref l), some (.ref o1), some (.ref lf), y4, y5] ∧ Same H H' ∧ H' o1 = some (.lst fx) ∧ RpL H' fx (fs.map eT) ∧ H' lf = some (.lst (left.map V.int)) ∧ H lf = none ∧ lf ≠ o1 ∧
      left.Sublist lot ∧ Closed (adj ts) lot left ∧ fs ++ prt (adj ts) lot left = parts (adj ts) lot ∧ m = left.length,
      ⟨_, none, none, lf, lot, [], [], rfl, sUpd s1 nf, g1, .nil, upd_same, Same.free s1 nf, (ne_of_none (upd_same (H := H) (a := o1) (o := .lst [])) nf).symm, List.Sublist.refl _, closed_all, rfl, rfl⟩, ?_⟩
    rintro m σ H' ⟨y4, y5, lf, left, fs, fx, rfl, sm, h1, hfx, h2, nf, n12, sub, cl, eqp, rfl⟩
    refine ⟨.ref lf, rfl, Nat.zero_le _, fun o3 n3 => ne_nil K h2 (rpl_ints left) (dep_ints left) (by decide) n3 ⟨_, rfl, ?_⟩⟩
    have s3 : Same H' (upd H' o3 (.lst [])) := same_new n3
    have g1 := s3 _ _ h1
    have g2 := s3 _ _ h2
    have gx := hfx.keep (same_t s3)
    have sm3 := sm.trans s3
    generalize upd H' o3 (.lst []) = H3 at g1 g2 gx sm3
    cases left with
    | nil =>
      refine iteF ?_
      refine ⟨.ref o1, rfl, .inl ⟨o1, _, rfl, SqL.of g1, fun r nr => q _ _ (sUpd sm3 nr) (Rp.new nr ?_)⟩⟩
      rw [prt_nil, List.append_nil] at eqp
      rw [← eqp]
      exact gx
    | cons x r =>
      refine iteT ?_
      have hx : x ∈ lot := sub.subset List.mem_cons_self
      have hl8 : (x :: r).length ≤ 8 := Nat.le_trans sub.length_le h8
      have hfl : fs.length ≤ 8 := by
        have e := congrArg List.length eqp
        rw [List.length_append] at e
        have := parts_len (A := adj ts) (L := lot)
        omega
      refine ⟨fun σ' H'' => ∃ m', m' < (x :: r).length ∧ ∃ y4 y5 lf left fs fx, σ' = [some v, some (.ref l), some (.ref o1), some (.ref lf), y4, y5] ∧ Same H H'' ∧ H'' o1 = some (.lst fx) ∧ RpL H'' fx (fs.map eT) ∧ H'' lf = some (.lst (left.map V.int)) ∧ H lf = none ∧ lf ≠ o1 ∧
        left.Sublist lot ∧ Closed (adj ts) lot left ∧ fs ++ prt (adj ts) lot left = parts (adj ts) lot ∧ m' = left.length, fun σ' H'' z => z, ?_⟩
      refine ⟨v, rfl, .ref lf, rfl, lf, _, 0, .int x, rfl, rfl, SqL.of g2, atI_nat (j := 0) rfl, .ref lf, rfl, v, .ref lf, nums, ts, x :: r, x, rfl, hv.keep (same_t sm3), hn, ⟨lf, rfl, .inr g2⟩, hasc.sub sub, hl8, List.mem_cons_self, fun H4 pr s4 hpr => ?_⟩
      rw [comp_left hasc sub cl List.mem_cons_self] at hpr
      obtain ⟨e, rfl, he⟩ := hpr.tupI
      have k1 := s4 _ _ g1
      have k2 := s4 _ _ g2
      have kx := gx.keep (same_t s4)
      have sm4 := sm3.trans s4
      -- found.append(part)
      refine ⟨.ref o1, rfl, .inl ⟨rfl, _, SqL.of k1⟩, .ref e, rfl, o1, _, _, rfl, rfl, k1, ?_, ?_⟩
      · rw [kx.len, List.length_map]
        exact small60 (by omega)
      have stl := sameT_lst (o := .lst (fx ++ [.ref e])) k1
      have j1 : (upd H4 o1 (.lst (fx ++ [V.ref e]))) o1 = some (.lst (fx ++ [V.ref e])) := upd_same
      have j2 : (upd H4 o1 (.lst (fx ++ [V.ref e]))) lf = some (.lst ((x :: r).map V.int)) := by
        rw [upd_ne n12]
        exact k2
      have jx : RpL (upd H4 o1 (.lst (fx ++ [V.ref e]))) (fx ++ [V.ref e]) ((fs ++ [comp (adj ts) lot x]).map eT) := by
        rw [List.map_append]
        exact (kx.keep stl).append (RpL.one (hpr.keep stl))
      have je := stl _ _ he
      have sm5 : Same H (upd H4 o1 (.lst (fx ++ [V.ref e]))) := sOwn sm4 n1
      generalize upd H4 o1 (.lst (fx ++ [V.ref e])) = H5 at j1 j2 jx je sm5
      refine ⟨.ref lf, rfl, lf, rfl, ⟨_, SqL.of j2⟩, fun D nD => lcP (x :: r) Dt.i (fun y => !decide (y ∈ comp (adj ts) lot x)) id Dt.i (walkL (by rw [List.length_map])) nD (fun H6 s6 => SqL.of (s6 _ _ j2)) (by omega) (yAt (rpl_ints _)) ?_ ?_⟩
      · intro y vy H6 R R' hy s6 ry hT hF
        cases ry
        refine ⟨rfl, .int y, rfl, .ref e, rfl, e, _, rfl, .inr (SqT.of (s6 _ _ je)), rfl, flat_ints _, _, rfl, ?_⟩
        show if (!inV (.int y) ((comp (adj ts) lot x).map V.int)) = true then _ else _
        rw [inV_ints]
        by_cases c : y ∈ comp (adj ts) lot x
        · rw [decide_eq_true c]
          exact iteF (hF (by rw [decide_eq_true c]; rfl) _ (Same.refl _))
        · rw [decide_eq_false c]
          exact iteT ⟨.int y, rfl, hT (by rw [decide_eq_false c]; rfl) _ _ (Same.refl _) (.i y)⟩
      · intro H6 ys s6 hD rp
        rw [List.map_id, left_next (fun y hy => sub.subset hy)] at rp
        have ey := rp.ints
        subst ey
        have hnx := prt_cons sy hasc sub cl
        refine ⟨(r.filter fun y => !decide (Rch (adj ts) lot x y)).length, ?_, _, _, D, _, fs ++ [comp (adj ts) lot x], _, rfl, sm5.trans s6, s6 _ _ j1, jx.keep (same_t s6), hD, Same.free sm5 nD, ?_, ?_, closed_next sy (fun y hy => sub.subset hy) cl, ?_, rfl⟩
        · have := List.length_filter_le (fun y => !decide (Rch (adj ts) lot x y)) r
          simp only [List.length_cons]
          omega
        · exact (ne_of_none j1 nD).symm
        · exact List.filter_sublist.trans ((List.sublist_cons_self x r).trans sub)
        · rw [List.append_assoc, ← eqp, hnx]
          rfl
end
end K16
namespace K16
open PySem PySem.Spec PyProof.Rows L2 Classical
/-- what a part of the others is -/
structure PartOf (ts : List Tie) (n : Nat) (p : Int) (part : List Int) : Prop where
  pos : 0 < part.length
  len : part.length ≤ n
  sub : ∀ x ∈ part, x ∈ evb n
  nb : ∃ z ∈ part, adj ts p z
theorem oth_len {n : Nat} {p : Int} : (oth n p).length ≤ n := by
  have e := List.length_filter_le (fun x => !decide (x ∈ [p])) (evb n)
  rw [evb_len] at e
  exact e
theorem part_of {ts : List Tie} {n : Nat} {p : Int} (c : Conn (adj ts) n) (hp : p ∈ evb n) {part : List Int} (h : part ∈ parts (adj ts) (oth n p)) : PartOf ts n p part := by
  unfold parts at h
  obtain ⟨l, hl, rfl⟩ := List.mem_map.mp h
  have hl' := (List.mem_filter.mp hl).1
  have hm : l ∈ comp (adj ts) (oth n p) l := mem_comp.mpr ⟨hl', .refl⟩
  refine ⟨List.length_pos_of_mem hm, ?_, fun x hx => ?_, ?_⟩
  · have e := List.length_filter_le (fun y => decide (Rch (adj ts) (oth n p) l y)) (oth n p)
    exact Nat.le_trans e oth_len
  · exact mem_evb.mpr (mem_oth.mp (mem_comp.mp hx).1).1
  · obtain ⟨z, hz, az⟩ := to_border c hp hl'
    exact ⟨z, mem_comp.mpr ⟨hz.mem hl', hz⟩, adj_sym ts _ _ az⟩
theorem deep_dec {nums part : List Int} {p m m' : Int} (h1 : ∃ x ∈ part, numOf nums x = m) (h2 : ∀ x ∈ part, m ≤ numOf nums x) (e : m' = numOf nums p) : decide (m < m') = isDeep nums p part := by
  have k : m < m' ↔ isDeep nums p part = true := by
    rw [isDeep_iff, e]
    constructor
    · intro h
      obtain ⟨x, hx, e⟩ := h1
      exact ⟨x, hx, by omega⟩
    · rintro ⟨x, hx, h⟩
      have := h2 x hx
      omega
  by_cases c : m < m'
  · rw [decide_eq_true c, k.mp c]
  · rw [decide_eq_false c]
    cases hb : isDeep nums p part with
    | false => rfl
    | true => exact absurd (k.mpr hb) c
section
variable {P : Program} {w : World} {K : PySem.W.Frag} {mg : Str → Option Value} {base : Heap}
/-! ### is_deep -/
abbrev dIsDeep : Stmt := topS 22
theorem scIsDeep : FnScope ["web", "piece", "lot"] ["web", "piece", "lot"] (defScope dIsDeep) := ⟨rfl, rfl, rfl, by decide +kernel, rfl, by decide +kernel, by decide +kernel⟩
def spIsDeep : Sp := fun vs H Q _ => ∃ (v u x : V) (nums : List Int) (ts : List Tie) (part : List Int) (p : Int), vs = [v, u, x] ∧ Rp H v (eW nums ts) ∧ ts.length ≤ 60 ∧ nums.length ≤ 8 ∧ Rp H u (eT part) ∧ Rp H x (eT [p]) ∧ p ∈ evb nums.length ∧ PartOf ts nums.length p part ∧
  ∀ H', Same H H' → Q (.bl (isDeep nums p part)) H'
theorem cIsDeep (D : Stand K mg "is_deep" dIsDeep) (B : Blt mg) (C1 : Cal P w K mg base 1 "least_of" spLeast) (C2 : Cal P w K mg base 2 "border_of" spBorder) : Cal P w K mg base 3 "is_deep" spIsDeep := by
  refine cal_of D scIsDeep (fun _ _ _ _ _ _ us hl => match us, hl with | [_, _, _], _ => rfl) (fun vs H Q E h => ?_) (fun f cdv A outer s H vs Q E hr h => ?_)
  · obtain ⟨v, u, x, nums, ts, part, p, rfl, _⟩ := h
    rfl
  · obtain ⟨v, u, x, nums, ts, part, p, rfl, hv, hn, h8, hu, hx, hp, hpt, q⟩ := h
    refine ⟨_, pss_one (ps_ret (pe_cmpR op_lt (pcl C1 hr (by decide) (by rfl) (pa_cons (pv 0) (pa_cons (pv 1) pa_nil)))
      (pcl C1 hr (by decide) (by rfl) (pa_cons (pv 0) (pa_cons (pcl C2 hr (by decide) (by rfl) (pa_cons (pv 0) (pa_cons (pv 1) (pa_cons (pv 2) pa_nil)))) pa_nil))) (nomark _))), ?_⟩
    refine ⟨v, rfl, u, rfl, v, u, nums, ts, part, rfl, hv, hu, hpt.pos, by have := hpt.len; omega, hpt.sub, fun H1 m s1 hm1 hm2 => ?_⟩
    refine ⟨v, rfl, v, rfl, u, rfl, x, rfl, v, u, x, nums, ts, part, p, rfl, hv.keep (same_t s1), hn, hu.keep (same_t s1), hx.keep (same_t s1), hpt.nb, fun H2 r s2 hr2 => ?_⟩
    refine ⟨v, r, nums, ts, [p], rfl, (hv.keep (same_t s1)).keep (same_t s2), hr2, by show 0 < 1; decide, by show 1 ≤ 8; decide, fun y hy => by rw [List.mem_singleton.mp hy]; exact hp, fun H3 m' s3 hm3 hm4 => ?_⟩
    refine ⟨m, m', rfl, rfl, ?_⟩
    obtain ⟨y, hy, ey⟩ := hm3
    have ey' : m' = numOf nums p := by rw [← ey, List.mem_singleton.mp hy]
    have e := deep_dec (p := p) hm1 hm2 ey'
    show Q (.bl (decide (m < m'))) H3
    rw [e]
    exact q _ (s1.trans (s2.trans s3))
/-! ### deep_of -/
abbrev dDeepOf : Stmt := topS 23
theorem scDeepOf : FnScope ["web", "lot", "piece"] ["web", "lot"] (defScope dDeepOf) := ⟨rfl, rfl, rfl, by decide +kernel, rfl, by decide +kernel, by decide +kernel⟩
def spDeepOf : Sp := fun vs H Q _ => ∃ (v x : V) (nums : List Int) (ts : List Tie) (p : Int), vs = [v, x] ∧ Rp H v (eW nums ts) ∧ ts.length ≤ 60 ∧ nums.length ≤ 8 ∧ Rp H x (eT [p]) ∧ p ∈ evb nums.length ∧ Conn (adj ts) nums.length ∧
  ∀ H' r, Same H H' → Rp H' r (eTT (deepL (adj ts) (oth nums.length p) nums p)) → Q r H'
theorem cDeepOf (D : Stand K mg "deep_of" dDeepOf) (B : Blt mg) (C1 : Cal P w K mg base 3 "parts_of" spParts) (C2 : Cal P w K mg base 2 "others" spOthers) (C3 : Cal P w K mg base 3 "is_deep" spIsDeep) : Cal P w K mg base 4 "deep_of" spDeepOf := by
  refine cal_of D scDeepOf (fun _ _ _ _ _ _ us hl => match us, hl with | [_, _], _ => rfl) (fun vs H Q E h => ?_) (fun f cdv A outer s H vs Q E hr h => ?_)
  · obtain ⟨v, x, nums, ts, p, rfl, _⟩ := h
    rfl
  · obtain ⟨v, x, nums, ts, p, rfl, hv, hn, h8, hx, hp, hc, q⟩ := h
    refine ⟨_, pss_one (ps_ret (pe_tupleOf (by rfl) B.tuple (pe_lc (own := [("piece", 2)]) (g := gName 2) rfl scDeepOf.nd (pi_tup (pcl C1 hr (by decide) (by rfl) (pa_cons (pv 0) (pa_cons (pcl C2 hr (by decide) (by rfl) (pa_cons (pv 0) (pa_cons (pv 1) pa_nil))) pa_nil))))
      (blkOk_by (N := ["web", "lot", "piece"]) (sc := defScope dDeepOf) (by decide +kernel)) (fun _ _ _ _ _ => pg_name (i := 2) scDeepOf.nd rfl (Or.inl rfl))
      (fun _ _ _ _ _ => pts_one (pt_val (pcl C3 hr (by decide) (by rfl) (pa_cons (pv 0) (pa_cons (pv 2) (pa_cons (pv 1) pa_nil)))))) (fun _ _ _ _ _ => pv 2)))), ?_⟩
    refine ⟨v, rfl, v, rfl, x, rfl, v, x, nums, ts, p, rfl, hv, h8, hx, fun H1 r1 s1 hr1 => ?_⟩
    obtain ⟨o, rfl, ho⟩ := hr1.tupI
    refine ⟨v, .ref o, nums, ts, oth nums.length p, rfl, hv.keep (same_t s1), hn, ⟨o, rfl, .inl ho⟩, oth_asc, Nat.le_trans oth_len h8, fun H2 r2 s2 hr2 => ?_⟩
    obtain ⟨e, xs, rfl, he, hxs⟩ := hr2.tup
    have hpl : (parts (adj ts) (oth nums.length p)).length ≤ 8 := Nat.le_trans parts_len (Nat.le_trans oth_len h8)
    refine ⟨e, rfl, ⟨_, SqT.of he⟩, fun D nD => lcP (parts (adj ts) (oth nums.length p)) eT (isDeep nums p) id eT (walkT (by rw [hxs.len, List.length_map])) nD (fun H3 s3 => SqT.of (s3 _ _ he)) (by omega) (yAt hxs) ?_ ?_⟩
    · intro part y H3 R R' hm s3 ry hT hF
      have sm := s1.trans (s2.trans s3)
      refine ⟨rfl, v, rfl, y, rfl, x, rfl, v, y, x, nums, ts, part, p, rfl, hv.keep (same_t sm), hn, h8, ry, hx.keep (same_t sm), hp, part_of hc hp hm, fun H4 s4 => ⟨_, rfl, ?_⟩⟩
      cases hb : isDeep nums p part with
      | true => exact iteT ⟨y, rfl, hT hb _ _ s4 (ry.keep (same_t s4))⟩
      | false => exact iteF (hF hb _ s4)
    · intro H3 ys s3 hD rp
      refine .inl ⟨D, ys, rfl, SqL.of hD, fun u nu => q _ _ (sUpd (s1.trans (s2.trans s3)) nu) (Rp.new nu ?_)⟩
      rw [List.map_id] at rp
      exact rp
/-! ### cost_of -/
abbrev dCost : Stmt := topS 24
theorem scCost : FnScope ["web", "lot"] ["web", "lot"] (defScope dCost) := ⟨rfl, rfl, rfl, by decide +kernel, rfl, by decide +kernel, by decide +kernel⟩
def spCost : Sp := fun vs H Q _ => ∃ (v x : V) (nums : List Int) (ts : List Tie) (p : Int), vs = [v, x] ∧ Rp H v (eW nums ts) ∧ ts.length ≤ 60 ∧ nums.length ≤ 8 ∧ Rp H x (eT [p]) ∧ p ∈ evb nums.length ∧ Conn (adj ts) nums.length ∧
  ∀ H', Same H H' → Q (.int (deepL (adj ts) (oth nums.length p) nums p).length) H'
theorem cCost (D : Stand K mg "cost_of" dCost) (B : Blt mg) (C1 : Cal P w K mg base 4 "deep_of" spDeepOf) : Cal P w K mg base 5 "cost_of" spCost := by
  refine cal_of D scCost (fun _ _ _ _ _ _ us hl => match us, hl with | [_, _], _ => rfl) (fun vs H Q E h => ?_) (fun f cdv A outer s H vs Q E hr h => ?_)
  · obtain ⟨v, x, nums, ts, p, rfl, _⟩ := h
    rfl
  · obtain ⟨v, x, nums, ts, p, rfl, hv, hn, h8, hx, hp, hc, q⟩ := h
    refine ⟨_, pss_one (ps_ret (pe_callB call_len_seq (by rfl) B.len PySem.boot_len (pa_cons (pcl C1 hr (by decide) (by rfl) (pa_cons (pv 0) (pa_cons (pv 1) pa_nil))) pa_nil))), ?_⟩
    refine ⟨v, rfl, x, rfl, v, x, nums, ts, p, rfl, hv, hn, h8, hx, hp, hc, fun H1 r s1 hr1 => ?_⟩
    obtain ⟨e, xs, rfl, he, hxs⟩ := hr1.tup
    refine ⟨e, xs, rfl, .inr (SqT.of he), ?_⟩
    have el := hxs.len
    rw [List.length_map] at el
    show Q (.int (xs.length : Int)) H1
    rw [el]
    exact q _ s1
end
end K16
namespace K16
open PySem PySem.Spec PyProof.Rows L2 Classical
/-- a web that the package takes -/
structure Good (nums : List Int) (ts : List Tie) : Prop where
  n1 : 1 ≤ nums.length
  n8 : nums.length ≤ 8
  val : ∀ x ∈ nums, -1000 ≤ x ∧ x ≤ 1000
  ties : ∀ t ∈ ts, 0 ≤ t.1 ∧ t.1 < t.2 ∧ t.2 < (nums.length : Int)
  asc : ts.Pairwise pairLt
  conn : Conn (adj ts) nums.length
  t60 : ts.length ≤ 60
/-- the module's constants -/
structure Cst (mg : Str → Option Value) : Prop where
  mp : ∃ t, mg "MOST_PERSONS" = some (.int 8 t)
  mv : ∃ t, mg "MOST_VALUE" = some (.int 1000 t)
theorem lexAt_no {t u : Tie} (h : pairLt u t) : Ob.lexAt (fun j => decide ([t.1, t.2].getD j 0 = [u.1, u.2].getD j 0)) (fun j => decide ([t.1, t.2].getD j 0 ≤ [u.1, u.2].getD j 0)) (decide ([t.1, t.2].length ≤ [u.1, u.2].length)) 0 (min [t.1, t.2].length [u.1, u.2].length) = false := by
  show (if decide (t.1 = u.1) = true then (if decide (t.2 = u.2) = true then decide (2 ≤ 2) else decide (t.2 ≤ u.2)) else decide (t.1 ≤ u.1)) = false
  rcases h with h | ⟨h1, h2⟩
  · have e1 : ¬ t.1 = u.1 := by omega
    have e2 : ¬ t.1 ≤ u.1 := by omega
    simp [e1, e2]
  · have e1 : ¬ t.2 = u.2 := by omega
    have e2 : ¬ t.2 ≤ u.2 := by omega
    simp [h1, e1, e2]
section
variable {P : Program} {w : World} {K : PySem.W.Frag} {mg : Str → Option Value} {base : Heap}
/-! ### need_web -/
abbrev dNeed : Stmt := topS 12
abbrev nNeed : List Str := ["value", "numbers", "ties", "index", "tie", "number"]
theorem scNeed : FnScope nNeed ["value"] (defScope dNeed) := ⟨rfl, rfl, rfl, by decide +kernel, rfl, by decide +kernel, by decide +kernel⟩
def spNeed : Sp := fun vs H Q _ => ∃ (v : V) (nums : List Int) (ts : List Tie), vs = [v] ∧ Rp H v (eW nums ts) ∧ Good nums ts ∧ ∀ H', Same H H' → Q .non H'
theorem cNeed (D : Stand K mg "need_web" dNeed) (B : Blt mg) (Z : Cst mg) (C1 : Cal P w K mg base 2 "is_from" spIsFrom) (C2 : Cal P w K mg base 3 "is_tie" spIsTie) (C3 : Cal P w K mg base 2 "hanging" spHang) (C4 : Cal P w K mg base 1 "everybody" spEvb) : Cal P w K mg base 4 "need_web" spNeed := by
  obtain ⟨tp, zp⟩ := Z.mp
  obtain ⟨tv, zv⟩ := Z.mv
  refine cal_of D scNeed (fun _ _ _ _ _ _ us hl => match us, hl with | [_], _ => rfl) (fun vs H Q E h => ?_) (fun f cdv A outer s H vs Q E hr h => ?_)
  · obtain ⟨v, nums, ts, rfl, _⟩ := h
    rfl
  · obtain ⟨v, nums, ts, rfl, hv, g, q⟩ := h
    obtain ⟨a, b, c, rfl, ha, hb, xs, hc, hl⟩ := hv.web
    refine ⟨_, pss_cons (ps_if (PW.pt (pw_or (pt_not (pt_val (pe_callB call_isi (by rfl) B.isi (by decide +kernel) (pa_cons (pv 0) (pa_cons (pe_bltn (by rfl) B.tuple (by decide +kernel) (v := .ty "tuple") rfl) pa_nil)))))
        (pw_or1 (pt_cmpR op_ne (pe_callB call_len_seq (by rfl) B.len PySem.boot_len (pa_cons (pv 0) pa_nil)) pe_int (nomark _))))) (pss_one ps_never) pss_nil)
      (pss_cons (ps_asg (pv 0) (pg_tup rfl (pgs_cons (pg_name (i := 1) scNeed.nd rfl (.inl rfl)) (pgs_cons (pg_name (i := 2) scNeed.nd rfl (.inl rfl)) pgs_nil))))
      (pss_cons (ps_if (PW.pt (pw_or (pt_not (pt_val (pe_callB call_isi (by rfl) B.isi (by decide +kernel) (pa_cons (pv 1) (pa_cons (pe_bltn (by rfl) B.tuple (by decide +kernel) (v := .ty "tuple") rfl) pa_nil)))))
        (pw_or (pt_not (pt_chain op_le op_le pe_int (pe_callB call_len_seq (by rfl) B.len PySem.boot_len (pa_cons (pv 1) pa_nil)) (pe_glob (v := .int 8) (by rfl) zp ⟨_, rfl⟩)))
        (pw_or1 (pt_not (pt_val (pe_callB call_isi (by rfl) B.isi (by decide +kernel) (pa_cons (pv 2) (pa_cons (pe_bltn (by rfl) B.tuple (by decide +kernel) (v := .ty "tuple") rfl) pa_nil))))))))) (pss_one ps_never) pss_nil)
      (pss_cons (ps_if (pt_not (pt_val (pe_callB (cr_all rfl) (by rfl) B.all (by decide +kernel) (pa_cons (pe_lc (own := [("number", 5)]) (g := gName 5) rfl scNeed.nd (pi_tup (pv 1))
          (blkOk_by (N := nNeed) (sc := defScope dNeed) (by decide +kernel)) (fun _ _ _ _ _ => pg_name (i := 5) scNeed.nd rfl (Or.inl rfl)) (fun _ _ _ _ _ => pts_nil)
          (fun _ _ _ _ _ => pcl C1 hr (by decide) (by rfl) (pa_cons (pv 5) (pa_cons (pe_un un_neg (pe_glob (v := .int 1000) (by rfl) zv ⟨_, rfl⟩)) (pa_cons (pe_glob (v := .int 1000) (by rfl) zv ⟨_, rfl⟩) pa_nil))))) pa_nil)))) (pss_one ps_never) pss_nil)
      (pss_cons (ps_for PassesOwn.never rfl (pi_enumT (by rfl) B.enum (pa_cons (pv 2) pa_nil)) (pg_tup rfl (pgs_cons (pg_name (i := 3) scNeed.nd rfl (.inl rfl)) (pgs_cons (pg_name (i := 4) scNeed.nd rfl (.inl rfl)) pgs_nil)))
        (pss_one (ps_if (PW.pt (pw_or (pt_not (pt_val (pcl C2 hr (by decide) (by rfl) (pa_cons (pv 4) (pa_cons (pe_callB call_len_seq (by rfl) B.len PySem.boot_len (pa_cons (pv 1) pa_nil)) pa_nil)))))
          (pw_or1 (PW.pt (pw_and (pt_cmpR op_gt (pv 3) pe_int (nomark _)) (pw_and1 (pt_cmpR (op_leT hr.units0) (pv 4) (pe_ix ix_tup (pv 2) (pe_op op_sub (pv 3) pe_int) (fun _ _ => rfl)) (nomark _)))))))) (pss_one ps_never) pss_nil)))
      (pss_one (ps_if (pt_cmpR op_lt (pe_callB call_len_seq (by rfl) B.len PySem.boot_len (pa_cons (pcl C3 hr (by decide) (by rfl) (pa_cons (pv 0) (pa_cons pe_int (pa_cons (pcl C4 hr (by decide) (by rfl) (pa_cons (pv 0) pa_nil)) pa_nil)))) pa_nil))
          (pe_callB call_len_seq (by rfl) B.len PySem.boot_len (pa_cons (pv 1) pa_nil)) (nomark _)) (pss_one ps_never) pss_nil)))))), ?_⟩
    have hnl : (nums.map V.int).length = nums.length := List.length_map ..
    -- the pair
    refine ⟨.ref a, rfl, .ref a, .ty "tuple", .type "tuple", .type "tuple", true, rfl, .ty "tuple", .base (.tup ha), kit_ty (by decide +kernel), true, rfl, iteF ?_⟩
    refine ⟨.ref a, rfl, a, _, rfl, .inr (SqT.of ha), rfl, _, rfl, iteNS rfl ?_⟩
    refine ⟨.ref a, rfl, a, _, rfl, SqT.of ha, rfl, .ref b, _, rfl, .ref c, [], rfl, rfl, ?_⟩
    -- numbers, ties
    refine ⟨.ref b, rfl, .ref b, .ty "tuple", .type "tuple", .type "tuple", true, rfl, .ty "tuple", .base (.tup hb), kit_ty (by decide +kernel), true, rfl, iteF ?_⟩
    refine ⟨.ref b, rfl, b, _, rfl, .inr (SqT.of hb), 1, _, rfl, rfl, true, congrArg V.bl (decide_eq_true (by rw [hnl]; have := g.n1; omega)), iteT ?_⟩
    refine ⟨_, 8, rfl, rfl, true, congrArg V.bl (decide_eq_true (by rw [hnl]; have := g.n8; omega)), iteF ?_⟩
    refine ⟨.ref c, rfl, .ref c, .ty "tuple", .type "tuple", .type "tuple", true, rfl, .ty "tuple", .base (.tup hc), kit_ty (by decide +kernel), true, rfl, iteF ?_⟩
    -- all numbers
    refine ⟨.ref b, rfl, b, rfl, ⟨_, SqT.of hb⟩, fun D nD => lcG nums Dt.i (fun _ => true) (fun _ => true) (fun _ y b => y = V.bl b) (fun _ _ _ _ _ h => h) (walkT hnl) nD (fun H1 s1 => SqT.of (s1 _ _ hb)) (by have := g.n8; omega) (yAt (rpl_ints _)) ?_ ?_⟩
    · intro x y H1 R R' hx s1 ry hT hF
      cases ry
      have hx2 := g.val x hx
      refine ⟨rfl, (iteT ?_ : if true = true then _ else R' H1)⟩
      exact ⟨.int x, rfl, 1000, rfl, x, _, _, rfl, hx2.1, hx2.2, hT rfl _ _ (Same.refl _) rfl⟩
    · intro H1 ys s1 hD rp
      have ey := bool_any (K := K) (H := H1) rp
      subst ey
      refine ⟨D, _, rfl, SqL.of hD, true, ?_, iteF ?_⟩
      · congr 1
        rw [List.all_eq_true]
        intro x hx
        obtain ⟨y, _, rfl⟩ := List.mem_map.mp hx
        rfl
      have hb1 := s1 _ _ hb
      have hc1 := s1 _ _ hc
      have hxl : xs.length = ts.length := by rw [hl.len, List.length_map]
      -- the ties, one by one
      refine ⟨.ref c, rfl, c, xs, rfl, SqT.of hc1, for_it (walk_enumT (K := K) (a := c) (xs := xs)) (fun i σ H' => ∃ y3 y4, σ = [some (.ref a), some (.ref b), some (.ref c), y3, y4, none] ∧ Same H H') ⟨none, none, rfl, s1⟩ (fun i σ H' _ ⟨_, _, _, sm⟩ => SqT.of (sm _ _ hc)) ?_ ?_⟩
      · rintro i x σ H2 H2' hi ⟨y3, y4, rfl, sm⟩ ⟨T, x1, x2, rfl, nT, rfl, e1, e2⟩
        have e1' := Option.some.inj e1
        subst e1'
        rw [hxl] at hi
        obtain ⟨d, hd, rx⟩ := hl.get' e2
        rw [List.getElem?_map, List.getElem?_eq_getElem hi] at hd
        have hd' := Option.some.inj hd
        subst hd'
        have sm2 : Same H (upd H2 T (.tup [.int (i : Nat), x2])) := sUpd sm nT
        have hti := g.ties ts[i] (List.getElem_mem hi)
        refine ⟨T, _, rfl, SqT.of upd_same, rfl, .int (i : Nat), _, rfl, x2, [], rfl, rfl, ?_⟩
        have rx2 : Rp (upd H2 T (.tup [.int (i : Nat), x2])) x2 (eP ts[i]) := rx.keep (same_t sm2)
        have hb2 := sm2 _ _ hb
        have hc2 := sm2 _ _ hc
        refine ⟨x2, rfl, .ref b, rfl, b, _, rfl, .inr (SqT.of hb2), x2, ts[i], _, rfl, rx2, hti.1, hti.2.1, by rw [hnl]; exact hti.2.2, true, rfl, iteF ?_⟩
        refine ⟨.int (i : Nat), rfl, _, _, rfl, rfl, _, rfl, ?_⟩
        show if decide ((0 : Int) < (i : Nat)) = true then _ else _
        by_cases ci : (0 : Int) < (i : Nat)
        · rw [decide_eq_true ci]
          refine iteT ?_
          obtain ⟨e, rfl, he⟩ := rx2.pair
          have hj : i - 1 < ts.length := by omega
          obtain ⟨y, hy, ry⟩ := hl.get (i := i - 1) (d := eP ts[i - 1]) (by rw [List.getElem?_map, List.getElem?_eq_getElem hj]; rfl)
          obtain ⟨e', rfl, he'⟩ := (ry.keep (same_t sm2)).pair
          have gx : atI xs ((i : Int) - 1) = some (.ref e') := by
            have ej : (i : Int) - 1 = ((i - 1 : Nat) : Int) := by omega
            rw [ej]
            exact atI_nat hy
          have lt : pairLt ts[i - 1] ts[i] := List.pairwise_iff_getElem.mp g.asc (i - 1) i hj hi (by omega)
          refine ⟨.ref e, rfl, .ref c, rfl, .int (i : Nat), rfl, i, 1, rfl, rfl, c, _, (i : Int) - 1, _, rfl, rfl, SqT.of hc2, gx, e, e', [ts[i].1, ts[i].2], [ts[i - 1].1, ts[i - 1].2], rfl, rfl, SqT.of he, SqT.of he', false, congrArg V.bl (lexAt_no lt), iteF ⟨_, _, rfl, sm2⟩⟩
        · rw [decide_eq_false ci]
          exact iteF (iteF ⟨_, _, rfl, sm2⟩)
      · rintro σ H2 ⟨y3, y4, rfl, sm⟩
        refine ⟨.ref a, rfl, .ref a, rfl, .ref a, nums, ts, rfl, hv.keep (same_t sm), g.n8, fun H3 r s3 hr3 => ?_⟩
        obtain ⟨e, rfl, he⟩ := hr3.tupI
        have sm3 := sm.trans s3
        have h0 : (0 : Int) ∈ evb nums.length := mem_evb.mpr ⟨by omega, by have := g.n1; omega⟩
        refine ⟨.ref a, .ref e, nums, ts, evb nums.length, 0, rfl, hv.keep (same_t sm3), g.t60, ⟨e, rfl, .inl he⟩, evb_asc, by rw [evb_len]; exact g.n8, h0, fun H4 r4 s4 hr4 => ?_⟩
        rw [comp_conn g.conn h0] at hr4
        obtain ⟨e4, rfl, he4⟩ := hr4.tupI
        have sm4 := sm3.trans s4
        refine ⟨e4, _, rfl, .inr (SqT.of he4), .ref b, rfl, b, _, rfl, .inr (SqT.of (sm4 _ _ hb)), _, _, rfl, rfl, false, congrArg V.bl (decide_eq_false ?_), iteF (q _ sm4)⟩
        rw [hnl, List.length_map, evb_len]
        omega
end
end K16
namespace K16
open PySem PySem.Spec PyProof.Rows L2 Classical
/-! ### sorted pairs -/
def kOf (H : Hp) : V → Int × Int
  | .ref t => match H t with
    | some (.tup [.int i, .int j]) => (i, j)
    | _ => (0, 0)
  | _ => (0, 0)
theorem kOf_pair {H : Hp} {a : Addr} {i j : Int} (h : H a = some (.tup [.int i, .int j])) : kOf H (.ref a) = (i, j) := by
  unfold kOf
  simp only [h]
theorem rpl_kOf {H : Hp} : ∀ {ps : List Tie} {xs : List V}, RpL H xs (ps.map eP) → xs.map (kOf H) = ps ∧ ∀ x ∈ xs, ∃ t, x = V.ref t ∧ H t = some (.tup [.int (kOf H x).1, .int (kOf H x).2])
  | [], _, .nil => ⟨rfl, fun x h => by simp at h⟩
  | t :: ps, _, .cons h1 h2 => by
    obtain ⟨e1, e2⟩ := rpl_kOf h2
    obtain ⟨a, rfl, ha⟩ := h1.pair
    refine ⟨by rw [List.map_cons, e1, kOf_pair ha], fun x hx => ?_⟩
    rcases List.mem_cons.mp hx with e | e
    · subst e
      exact ⟨a, rfl, by rw [kOf_pair ha]; exact ha⟩
    · exact e2 x e
theorem rpl_of_k {H : Hp} : ∀ {xs : List V}, (∀ x ∈ xs, ∃ t, x = V.ref t ∧ H t = some (.tup [.int (kOf H x).1, .int (kOf H x).2])) → RpL H xs ((xs.map (kOf H)).map eP)
  | [], _ => .nil
  | x :: xs, h => by
    obtain ⟨t, e, ht⟩ := h x List.mem_cons_self
    refine .cons ?_ (rpl_of_k fun y hy => h y (List.mem_cons_of_mem _ hy))
    rw [e] at ht ⊢
    exact rp_pair ht
theorem lexB_pair {a b : Tie} : SrtO.lexB a b = false ↔ ¬ pairLt a b := SrtO.lexB_no
theorem sorted_vals_of {H : Hp} {xs ys : List V} {ps : List Tie} (r : RpL H xs (ps.map eP)) (hs : SrtO.Srtd (ltP (kOf H)) ys) (hb : SrtO.Stb (ltP (kOf H)) ys xs) :
    RpL H ys ((ys.map (kOf H)).map eP) ∧ (ys.map (kOf H)).Perm ps ∧ (ys.map (kOf H)).Pairwise fun a b => ¬ pairLt b a := by
  obtain ⟨e1, e2⟩ := rpl_kOf r
  refine ⟨rpl_of_k fun y hy => e2 y (hb.perm.mem_iff.mp hy), ?_, ?_⟩
  · rw [← e1]
    exact hb.perm.map _
  · refine List.pairwise_map.mpr (List.Pairwise.imp ?_ hs)
    intro x y h
    exact lexB_pair.mp h
theorem sorted_list (K : PySem.W.Frag) {H : Hp} {a : Addr} {xs : List V} {ps : List Tie} {Q : VK} (hl : SqL K H a xs) (r : RpL H xs (ps.map eP))
    (h : ∀ (ys : List V) (p : Addr) (qs : List Tie), RpL H ys (qs.map eP) → qs.Perm ps → qs.Pairwise (fun a b => ¬ pairLt b a) → H p = none → Q (.ref p) (upd H p (.lst ys))) : rSortedPO K [.ref a] H Q :=
  ⟨a, xs, kOf H, rfl, hl, (rpl_kOf r).2, fun ys p hs hb np => let ⟨h1, h2, h3⟩ := sorted_vals_of r hs hb; h ys p _ h1 h2 h3 np⟩
theorem sorted_tup (K : PySem.W.Frag) {H : Hp} {a : Addr} {xs : List V} {ps : List Tie} {Q : VK} (hl : SqT K H a xs) (r : RpL H xs (ps.map eP))
    (h : ∀ (ys : List V) (p : Addr) (qs : List Tie), RpL H ys (qs.map eP) → qs.Perm ps → qs.Pairwise (fun a b => ¬ pairLt b a) → H p = none → Q (.ref p) (upd H p (.lst ys))) : rSortedPT K [.ref a] H Q :=
  ⟨a, xs, kOf H, rfl, hl, (rpl_kOf r).2, fun ys p hs hb np => let ⟨h1, h2, h3⟩ := sorted_vals_of r hs hb; h ys p _ h1 h2 h3 np⟩
theorem pl_irr {a : Tie} : ¬ pairLt a a := by
  unfold pairLt
  omega
theorem pl_asym {a b : Tie} (h : pairLt a b) : ¬ pairLt b a := by
  unfold pairLt at h ⊢
  omega
theorem pl_tot {a b : Tie} (h : ¬ pairLt b a) (n : a ≠ b) : pairLt a b := by
  unfold pairLt at h ⊢
  have : ¬ (a.1 = b.1 ∧ a.2 = b.2) := fun z => n (Prod.ext z.1 z.2)
  omega
theorem pl_strict : ∀ {qs : List Tie}, qs.Pairwise (fun a b => ¬ pairLt b a) → qs.Nodup → qs.Pairwise pairLt
  | [], _, _ => List.Pairwise.nil
  | q :: qs, h, n => by
    have h' := List.pairwise_cons.mp h
    have n' := List.nodup_cons.mp n
    exact List.pairwise_cons.mpr ⟨fun b hb => pl_tot (h'.1 b hb) fun e => n'.1 (e ▸ hb), pl_strict h'.2 n'.2⟩
theorem pl_nodup {qs : List Tie} (h : qs.Pairwise pairLt) : qs.Nodup := by
  refine List.Pairwise.imp ?_ h
  intro a b hab e
  subst e
  exact pl_irr hab
theorem pl_ext : ∀ {l m : List Tie}, l.Pairwise pairLt → m.Pairwise pairLt → (∀ x, x ∈ l ↔ x ∈ m) → l = m
  | [], [], _, _, _ => rfl
  | [], b :: m, _, _, h => by have := (h b).mpr List.mem_cons_self; simp at this
  | a :: l, [], _, _, h => by have := (h a).mp List.mem_cons_self; simp at this
  | a :: l, b :: m, hl, hm, h => by
    have hl' := List.pairwise_cons.mp hl
    have hm' := List.pairwise_cons.mp hm
    have e : a = b := by
      rcases List.mem_cons.mp ((h a).mp List.mem_cons_self) with e | e
      · exact e
      · rcases List.mem_cons.mp ((h b).mpr List.mem_cons_self) with k | k
        · exact k.symm
        · exact absurd (hl'.1 _ k) (pl_asym (hm'.1 _ e))
    subst e
    rw [pl_ext hl'.2 hm'.2 fun x => ?_]
    constructor
    · intro hx
      rcases List.mem_cons.mp ((h x).mp (List.mem_cons_of_mem _ hx)) with e | e
      · subst e
        exact absurd (hl'.1 _ hx) pl_irr
      · exact e
    · intro hx
      rcases List.mem_cons.mp ((h x).mpr (List.mem_cons_of_mem _ hx)) with e | e
      · subst e
        exact absurd (hm'.1 _ hx) pl_irr
      · exact e
/-- already rising: sorted is the same -/
theorem sorted_same {ps qs : List Tie} (h : ps.Pairwise pairLt) (hp : qs.Perm ps) (hs : qs.Pairwise fun a b => ¬ pairLt b a) : qs = ps :=
  pl_ext (pl_strict hs (hp.nodup_iff.mpr (pl_nodup h))) h fun x => hp.mem_iff
theorem cut_from1 (xs : List V) : cutV xs (some 1) none = xs.tail := by
  unfold cutV
  rw [show HT.sIx xs.length 0 (some 1) = min 1 xs.length from HT.sIx_nat xs.length 0 1, HT.sIx_none]
  cases xs with
  | nil => rfl
  | cons x r =>
    rw [show min 1 (x :: r).length = 1 by rw [List.length_cons]; omega]
    show List.take ((x :: r).length - 1) r = r
    rw [List.length_cons, Nat.add_sub_cancel]
    exact List.take_length
section
variable {P : Program} {w : World} {K : PySem.W.Frag} {mg : Str → Option Value} {base : Heap}
/-! ### fewest_ties -/
abbrev dFew : Stmt := topS 26
theorem scFew : FnScope ["web", "person"] ["web", "person"] (defScope dFew) := ⟨rfl, rfl, rfl, by decide +kernel, rfl, by decide +kernel, by decide +kernel⟩
def spFew : Sp := fun vs H Q _ => ∃ (v : V) (nums : List Int) (ts : List Tie) (p : Int), vs = [v, .int p] ∧ Rp H v (eW nums ts) ∧ Good nums ts ∧ p ∈ evb nums.length ∧ ∀ H', Same H H' → Q (.int (((deepL (adj ts) (oth nums.length p) nums p).length - 1 : Nat) : Int)) H'
theorem cFew (D : Stand K mg "fewest_ties" dFew) (B : Blt mg) (C1 : Cal P w K mg base 4 "need_web" spNeed) (C2 : Cal P w K mg base 3 "need_person" spNeedP) (C3 : Cal P w K mg base 5 "cost_of" spCost) : Cal P w K mg base 6 "fewest_ties" spFew := by
  refine cal_of D scFew (fun _ _ _ _ _ _ us hl => match us, hl with | [_, _], _ => rfl) (fun vs H Q E h => ?_) (fun f cdv A outer s H vs Q E hr h => ?_)
  · obtain ⟨v, nums, ts, p, rfl, _⟩ := h
    rfl
  · obtain ⟨v, nums, ts, p, rfl, hv, g, hp, q⟩ := h
    refine ⟨_, pss_cons (ps_expr (pcl C1 hr (by decide) (by rfl) (pa_cons (pv 0) pa_nil)))
      (pss_cons (ps_expr (pcl C2 hr (by decide) (by rfl) (pa_cons (pv 0) (pa_cons (pv 1) pa_nil))))
      (pss_one (ps_ret (pe_callB (call_max2 rfl) (by rfl) B.max (by decide +kernel) (pa_cons pe_int (pa_cons (pe_op op_sub (pcl C3 hr (by decide) (by rfl) (pa_cons (pv 0) (pa_cons (pe_tup (pa_cons (pv 1) pa_nil)) pa_nil))) pe_int) pa_nil)))))), ?_⟩
    refine ⟨v, rfl, v, nums, ts, rfl, hv, g, fun H1 s1 => ⟨v, rfl, .int p, rfl, v, nums, ts, p, rfl, hv.keep (same_t s1), hp, ?_⟩⟩
    refine ⟨v, rfl, .int p, rfl, by show 1 ≤ sizeLine; decide, fun o no => ⟨v, .ref o, nums, ts, p, rfl, (hv.keep (same_t s1)).keep (sameT_new no), g.t60, g.n8, rp_tupI (ns := [p]) upd_same, hp, g.conn, fun H3 s3 => ⟨_, 1, rfl, rfl, 0, _, rfl, ?_⟩⟩⟩
    have e : (if ((deepL (adj ts) (oth nums.length p) nums p).length : Int) - 1 > 0 then ((deepL (adj ts) (oth nums.length p) nums p).length : Int) - 1 else 0) = (((deepL (adj ts) (oth nums.length p) nums p).length - 1 : Nat) : Int) := by
      split <;> omega
    rw [e]
    exact q _ ((s1.trans (same_new no)).trans s3)
/-! ### some_ties -/
abbrev dSome : Stmt := topS 27
abbrev nSome : List Str := ["web", "person", "rest", "some", "part"]
theorem scSome : FnScope nSome ["web", "person"] (defScope dSome) := ⟨rfl, rfl, rfl, by decide +kernel, rfl, by decide +kernel, by decide +kernel⟩
def spSome : Sp := fun vs H Q _ => ∃ (v : V) (nums : List Int) (ts : List Tie) (p : Int), vs = [v, .int p] ∧ Rp H v (eW nums ts) ∧ Good nums ts ∧ p ∈ evb nums.length ∧ ∀ H' r, Same H H' → Rp H' r (eTs (told (deepL (adj ts) (oth nums.length p) nums p))) → Q r H'
theorem deepL_len8 {ts : List Tie} {nums : List Int} {p : Int} (g : nums.length ≤ 8) : (deepL (adj ts) (oth nums.length p) nums p).length ≤ 8 := by
  unfold deepL
  exact Nat.le_trans (List.length_filter_le _ _) (Nat.le_trans parts_len (Nat.le_trans oth_len g))
theorem cSome (D : Stand K mg "some_ties" dSome) (B : Blt mg) (C1 : Cal P w K mg base 4 "need_web" spNeed) (C2 : Cal P w K mg base 3 "need_person" spNeedP) (C3 : Cal P w K mg base 3 "parts_of" spParts) (C4 : Cal P w K mg base 2 "others" spOthers) (C5 : Cal P w K mg base 1 "least_of" spLeast) : Cal P w K mg base 5 "some_ties" spSome := by
  refine cal_of D scSome (fun _ _ _ _ _ _ us hl => match us, hl with | [_, _], _ => rfl) (fun vs H Q E h => ?_) (fun f cdv A outer s H vs Q E hr h => ?_)
  · obtain ⟨v, nums, ts, p, rfl, _⟩ := h
    rfl
  · obtain ⟨v, nums, ts, p, rfl, hv, g, hp, q⟩ := h
    refine ⟨_, pss_cons (ps_expr (pcl C1 hr (by decide) (by rfl) (pa_cons (pv 0) pa_nil)))
      (pss_cons (ps_expr (pcl C2 hr (by decide) (by rfl) (pa_cons (pv 0) (pa_cons (pv 1) pa_nil))))
      (pss_cons (ps_set (i := 2) scSome.nd rfl (.inl rfl) (pcl C3 hr (by decide) (by rfl) (pa_cons (pv 0) (pa_cons (pcl C4 hr (by decide) (by rfl) (pa_cons (pv 0) (pa_cons (pe_tup (pa_cons (pv 1) pa_nil)) pa_nil))) pa_nil))))
      (pss_cons (ps_set (i := 3) scSome.nd rfl (.inr rfl) (pe_lc (own := [("part", 4)]) (g := gName 4) rfl scSome.nd (pi_tup (pv 2))
          (blkOk_by (N := nSome) (sc := defScope dSome) (by decide +kernel)) (fun _ _ _ _ _ => pg_name (i := 4) scSome.nd rfl (Or.inl rfl))
          (fun _ _ _ _ _ => pts_one (pt_cmpR op_lt (pcl C5 hr (by decide) (by rfl) (pa_cons (pv 0) (pa_cons (pv 4) pa_nil))) (pe_ix (ixT K) (pe_ix (ixT K) (pv 0) pe_int (fun _ _ => rfl)) (pv 1) (fun _ _ => rfl)) (nomark _))) (fun _ _ _ _ _ => pv 4)))
      (pss_one (ps_ret (pe_tupleOf (by rfl) B.tuple (pe_callB cr_sortedPO (by rfl) B.sorted (by decide +kernel) (pa_cons (pe_lc (own := [("part", 4)]) (g := gName 4) rfl scSome.nd (pi_list (pe_slice sl_list (pv 3) (po_some pe_int) po_none))
          (blkOk_by (N := nSome) (sc := defScope dSome) (by decide +kernel)) (fun _ _ _ _ _ => pg_name (i := 4) scSome.nd rfl (Or.inl rfl)) (fun _ _ _ _ _ => pts_nil)
          (fun _ _ _ _ _ => pe_tup (pa_cons (pe_ix (ixT K) (pe_ix (ixL K) (pv 3) pe_int (fun _ _ => rfl)) pe_int (fun _ _ => rfl)) (pa_cons (pe_ix (ixT K) (pv 4) pe_int (fun _ _ => rfl)) pa_nil)))) pa_nil)))))))), ?_⟩
    refine ⟨v, rfl, v, nums, ts, rfl, hv, g, fun H1 s1 => ⟨v, rfl, .int p, rfl, v, nums, ts, p, rfl, hv.keep (same_t s1), hp, ?_⟩⟩
    refine ⟨v, rfl, v, rfl, .int p, rfl, by show 1 ≤ sizeLine; decide, fun o no => ⟨v, .ref o, nums, ts, p, rfl, (hv.keep (same_t s1)).keep (sameT_new no), g.n8, rp_tupI (ns := [p]) upd_same, fun H2 r2 s2 hr2 => ?_⟩⟩
    have sm2 := (s1.trans (same_new no)).trans s2
    obtain ⟨o2, rfl, ho2⟩ := hr2.tupI
    refine ⟨v, .ref o2, nums, ts, oth nums.length p, rfl, hv.keep (same_t sm2), g.t60, ⟨o2, rfl, .inl ho2⟩, oth_asc, Nat.le_trans oth_len g.n8, fun H3 r3 s3 hr3 => ?_⟩
    obtain ⟨e, xs, rfl, he, hxs⟩ := hr3.tup
    have sm3 := sm2.trans s3
    have hpl : (parts (adj ts) (oth nums.length p)).length ≤ 8 := Nat.le_trans parts_len (Nat.le_trans oth_len g.n8)
    have hgp := numOf_get hp
    have hp0 := (mem_evb.mp hp).1
    have gx : atI (nums.map V.int) p = some (.int (numOf nums p)) := by
      have ex : p = ((p.toNat : Nat) : Int) := by omega
      rw [ex]
      refine atI_nat ?_
      rw [List.getElem?_map, ← ex, hgp]
      rfl
    -- the threats
    refine ⟨.ref e, rfl, e, rfl, ⟨_, SqT.of he⟩, fun D nD => lcP (parts (adj ts) (oth nums.length p)) eT (isDeep nums p) id eT (walkT (by rw [hxs.len, List.length_map])) nD (fun H4 s4 => SqT.of (s4 _ _ he)) (by omega) (yAt hxs) ?_ ?_⟩
    · intro part y H4 R R' hm s4 ry hT hF
      have sm4 := sm3.trans s4
      have pt := part_of g.conn hp hm
      refine ⟨rfl, v, rfl, y, rfl, v, y, nums, ts, part, rfl, hv.keep (same_t sm4), ry, pt.pos, by have := pt.len; have := g.n8; omega, pt.sub, fun H5 m s5 hm1 hm2 => ?_⟩
      obtain ⟨a, b, c, rfl, ha, hb, xs', hc, hl⟩ := (hv.keep (same_t (sm4.trans s5))).web
      refine ⟨.ref a, rfl, a, _, 0, .ref b, rfl, rfl, SqT.of ha, atI_nat (j := 0) rfl, .int p, rfl, b, _, p, _, rfl, rfl, SqT.of hb, gx, m, numOf nums p, rfl, rfl, _, rfl, ?_⟩
      have ed := deep_dec (p := p) hm1 hm2 rfl
      show if decide (m < numOf nums p) = true then _ else _
      rw [ed]
      cases hb : isDeep nums p part with
      | true => exact iteT ⟨y, rfl, hT hb _ _ s5 (ry.keep (same_t s5))⟩
      | false => exact iteF (hF hb _ s5)
    · intro H4 ys s4 hD rp
      rw [List.map_id] at rp
      have sm4 := sm3.trans s4
      have rp' : RpL H4 ys ((deepL (adj ts) (oth nums.length p) nums p).map eT) := rp
      have d8 := deepL_len8 (ts := ts) (nums := nums) (p := p) g.n8
      have hlds := deep_lds (ts := ts) (L := oth nums.length p) (nums := nums) (p := p)
      have hmem : ∀ d ∈ deepL (adj ts) (oth nums.length p) nums p, d ∈ parts (adj ts) (oth nums.length p) := fun d hd => (List.mem_filter.mp hd).1
      -- the ties
      refine ⟨.ref D, rfl, 1, rfl, D, ys, rfl, SqL.of hD, fun S nS => ?_⟩
      have s5 : Same H4 (upd H4 S (.lst (cutV ys (some 1) none))) := same_new nS
      have hS : (upd H4 S (.lst (cutV ys (some 1) none))) S = some (.lst ys.tail) := by
        rw [upd_same, cut_from1]
      have hD5 := s5 _ _ hD
      have rp5 := rp'.keep (same_t s5)
      have sm5 := sm4.trans s5
      generalize upd H4 S (.lst (cutV ys (some 1) none)) = H5 at hS hD5 rp5 sm5
      revert rp5 hmem d8
      have htold : told (deepL (adj ts) (oth nums.length p) nums p) = (deepL (adj ts) (oth nums.length p) nums p).tail.map fun d => (leadOf ((deepL (adj ts) (oth nums.length p) nums p).headD []), leadOf d) := rfl
      have hasc := told_asc (ts := ts) (nums := nums) (p := p) (L := oth nums.length p) oth_asc
      revert htold hasc
      generalize htd : told (deepL (adj ts) (oth nums.length p) nums p) = td
      rw [htd] at q
      generalize deepL (adj ts) (oth nums.length p) nums p = ds
      intro htold hasc d8 hmem rp5
      have rt : RpL H5 ys.tail (ds.tail.map eT) := by
        cases rp5' : ds with
        | nil =>
          rw [rp5'] at rp5
          cases rp5
          exact .nil
        | cons d ds' =>
          rw [rp5'] at rp5
          cases rp5 with
          | cons _ h2 => exact h2
      refine ⟨S, rfl, ⟨_, SqL.of hS⟩, fun T nT => lcP ds.tail eT (fun _ => true) (fun d => (leadOf (ds.headD []), leadOf d)) eP (walkL (by rw [rt.len, List.length_map])) nT (fun H6 s6 => SqL.of (s6 _ _ hS)) (by rw [List.length_tail]; omega) (yAt rt) ?_ ?_⟩
      · intro d y H6 R R' hd s6 ry hT hF
        refine ⟨rfl, (iteT ?_ : if true = true then _ else R' H6)⟩
        cases ds with
        | nil => simp at hd
        | cons d0 ds' =>
          have hd' : d ∈ ds' := hd
          obtain ⟨y0, hy0, r0⟩ := rp5.get (i := 0) (d := eT d0) rfl
          obtain ⟨a0, rfl, ha0⟩ := (r0.keep (same_t s6)).tupI
          obtain ⟨a1, rfl, ha1⟩ := ry.tupI
          have f0 := (part_of g.conn hp (hmem d0 List.mem_cons_self)).pos
          have f1 := (part_of g.conn hp (hmem d (List.mem_cons_of_mem _ hd'))).pos
          have l0 : atI (d0.map V.int) 0 = some (.int (leadOf d0)) := by
            cases d0 with
            | nil => simp at f0
            | cons x r => exact atI_nat (j := 0) rfl
          have l1 : atI (d.map V.int) 0 = some (.int (leadOf d)) := by
            cases d with
            | nil => simp at f1
            | cons x r => exact atI_nat (j := 0) rfl
          refine ⟨.ref D, rfl, D, _, 0, .ref a0, rfl, rfl, SqL.of (s6 _ _ hD5), atI_nat (j := 0) hy0, a0, _, 0, _, rfl, rfl, SqT.of ha0, l0, .ref a1, rfl, a1, _, 0, _, rfl, rfl, SqT.of ha1, l1, by show 2 ≤ sizeLine; decide, fun u nu => ?_⟩
          exact hT rfl _ _ (same_new nu) (rp_pair upd_same)
      · intro H6 zs s6 hT rz
        have sm6 := sm5.trans s6
        refine sorted_list K (Q := fun x H' => kTup K x H' Q) (SqL.of hT) rz fun ws u qs rq hq1 hq2 nu => .inl ⟨u, _, rfl, SqL.of upd_same, fun t nt => ?_⟩
        have eqs : (ds.tail.filter fun _ => true).map (fun d => (leadOf (ds.headD []), leadOf d)) = td := by
          rw [htold]
          congr 1
          exact List.filter_eq_self.mpr fun _ _ => rfl
        rw [eqs] at hq1
        have eq := sorted_same hasc hq1 hq2
        subst eq
        exact q _ _ (sUpd (sUpd sm6 nu) nt) (Rp.new nt (rq.keep (sameT_new nu)))
end
end K16
namespace K16
open PySem PySem.Spec PyProof.Rows L2 Classical
/-! ### a tie fewer -/
noncomputable def less (ts : List Tie) (t : Tie) : List Tie := ts.filter fun u => !decide (u = t)
theorem less_len {ts : List Tie} {t : Tie} : (less ts t).length ≤ ts.length := List.length_filter_le _ _
noncomputable def brg (ts : List Tie) (n : Nat) (t : Tie) : Bool := decide (1 < (parts (adj (less ts t)) (evb n)).length)
theorem brg_conn {ts : List Tie} {n : Nat} {t : Tie} (h : brg ts n t = false) : Conn (adj (less ts t)) n := by
  refine conn_of_parts (adj_sym _) ?_
  have := of_decide_eq_false h
  omega
noncomputable def costsS (ts : List Tie) (nums : List Int) : List Int := (evb nums.length).map fun q => ((deepL (adj ts) (oth nums.length q) nums q).length : Int)
noncomputable abbrev eC (ts : List Tie) (nums : List Int) (t : Tie) : Dt := .t [eP t, eT (costsS (less ts t) nums)]
noncomputable abbrev eCs (ts : List Tie) (nums : List Int) : Dt := .t ((ts.filter fun t => !brg ts nums.length t).map (eC ts nums))
theorem ne_pairs (K : PySem.W.Frag) {H : Hp} {x y : V} {a t : Tie} {Q : VK} (hx : Rp H x (eP a)) (hy : Rp H y (eP t)) (h : Q (.bl (!decide (a = t))) H) : rNeD K x y H Q := by
  refine ⟨_, _, Rp.dp K _ _ hx, Rp.dp K _ _ hy, shaped_toP (dep_eP 0 a) (by decide), shaped_toP (dep_eP 0 t) (by decide), ?_⟩
  have e : PyData.eqv (toP (eP a)) (toP (eP t)) = decide (a = t) := by
    have k := eqv_toP (eP a) (eP t)
    by_cases c : a = t
    · rw [decide_eq_true c]
      exact k.mpr (by rw [c])
    · rw [decide_eq_false c]
      cases hb : PyData.eqv (toP (eP a)) (toP (eP t)) with
      | false => rfl
      | true => exact absurd (eP_inj (k.mp hb)) c
  rw [e]
  exact h
theorem rp_web2 {H : Hp} {o b c : Addr} {nums : List Int} {ts : List Tie} {xs : List V} (ho : H o = some (.tup [.ref b, .ref c])) (hb : H b = some (.tup (nums.map V.int))) (hc : H c = some (.tup xs)) (hl : RpL H xs (ts.map eP)) : Rp H (.ref o) (eW nums ts) :=
  .t ho (.cons (rp_tupI hb) (.cons (.t hc hl) .nil))
section
variable {P : Program} {w : World} {K : PySem.W.Frag} {mg : Str → Option Value} {base : Heap}
/-! ### is_bridge -/
abbrev dIsBr : Stmt := topS 28
abbrev nIsBr : List Str := ["web", "tie", "other", "one"]
theorem scIsBr : FnScope nIsBr ["web", "tie"] (defScope dIsBr) := ⟨rfl, rfl, rfl, by decide +kernel, rfl, by decide +kernel, by decide +kernel⟩
def spIsBr : Sp := fun vs H Q _ => ∃ (v u : V) (nums : List Int) (ts : List Tie) (t : Tie), vs = [v, u] ∧ Rp H v (eW nums ts) ∧ ts.length ≤ 60 ∧ nums.length ≤ 8 ∧ Rp H u (eP t) ∧ ∀ H', Same H H' → Q (.bl (brg ts nums.length t)) H'
theorem cIsBr (D : Stand K mg "is_bridge" dIsBr) (B : Blt mg) (C1 : Cal P w K mg base 3 "parts_of" spParts) (C2 : Cal P w K mg base 1 "everybody" spEvb) : Cal P w K mg base 4 "is_bridge" spIsBr := by
  refine cal_of D scIsBr (fun _ _ _ _ _ _ us hl => match us, hl with | [_, _], _ => rfl) (fun vs H Q E h => ?_) (fun f cdv A outer s H vs Q E hr h => ?_)
  · obtain ⟨v, u, nums, ts, t, rfl, _⟩ := h
    rfl
  · obtain ⟨v, u, nums, ts, t, rfl, hv, hn, h8, hu, q⟩ := h
    obtain ⟨a, b, c, rfl, ha, hb, xs, hc, hl⟩ := hv.web
    refine ⟨_, pss_cons (ps_set (i := 2) scIsBr.nd rfl (.inl rfl) (pe_tup (pa_cons (pe_ix ix_tup (pv 0) pe_int (fun _ _ => rfl)) (pa_cons (pe_tupleOf (by rfl) B.tuple (pe_lc (own := [("one", 3)]) (g := gName 3) rfl scIsBr.nd (pi_tup (pe_ix ix_tup (pv 0) pe_int (fun _ _ => rfl)))
          (blkOk_by (N := nIsBr) (sc := defScope dIsBr) (by decide +kernel)) (fun _ _ _ _ _ => pg_name (i := 3) scIsBr.nd rfl (Or.inl rfl))
          (fun _ _ _ _ _ => pts_one (pt_cmpR (neS K hr.units) (pv 3) (pv 1) (nomark _))) (fun _ _ _ _ _ => pv 3))) pa_nil))))
      (pss_one (ps_ret (pe_cmpR op_gt (pe_callB call_len_seq (by rfl) B.len PySem.boot_len (pa_cons (pcl C1 hr (by decide) (by rfl) (pa_cons (pv 2) (pa_cons (pcl C2 hr (by decide) (by rfl) (pa_cons (pv 2) pa_nil)) pa_nil))) pa_nil)) pe_int (nomark _)))), ?_⟩
    refine ⟨.ref a, rfl, a, _, 0, .ref b, rfl, rfl, SqT.of ha, atI_nat (j := 0) rfl, .ref a, rfl, a, _, 1, .ref c, rfl, rfl, SqT.of ha, atI_nat (j := 1) rfl, c, rfl, ⟨_, SqT.of hc⟩, fun D nD => lcP ts eP (fun y => !decide (y = t)) id eP (walkT (by rw [hl.len, List.length_map])) nD (fun H1 s1 => SqT.of (s1 _ _ hc)) (by omega) (yAt hl) ?_ ?_⟩
    · intro x y H1 R R' hx s1 ry hT hF
      refine ⟨rfl, y, rfl, u, rfl, ne_pairs K ry (hu.keep (same_t s1)) ⟨_, rfl, ?_⟩⟩
      by_cases c : x = t
      · rw [decide_eq_true c]
        exact iteF (hF (by rw [decide_eq_true c]; rfl) _ (Same.refl _))
      · rw [decide_eq_false c]
        exact iteT ⟨y, rfl, hT (by rw [decide_eq_false c]; rfl) _ _ (Same.refl _) ry⟩
    · intro H1 ys s1 hD rp
      rw [List.map_id] at rp
      refine .inl ⟨D, ys, rfl, SqL.of hD, fun o no => ⟨by show 2 ≤ sizeLine; decide, fun r nr => ?_⟩⟩
      have s2 : Same H1 (upd H1 o (.tup ys)) := same_new no
      have s3 : Same (upd H1 o (.tup ys)) (upd (upd H1 o (.tup ys)) r (.tup [.ref b, .ref o])) := same_new nr
      have ro : Rp (upd (upd H1 o (.tup ys)) r (.tup [.ref b, .ref o])) (.ref r) (eW nums (less ts t)) :=
        rp_web2 upd_same (s3 _ _ (s2 _ _ (s1 _ _ hb))) (s3 _ _ upd_same) ((rp.keep (same_t s2)).keep (same_t s3))
      have sm3 := s1.trans (s2.trans s3)
      generalize upd (upd H1 o (.tup ys)) r (.tup [.ref b, .ref o]) = H3 at ro sm3
      refine ⟨.ref r, rfl, .ref r, rfl, .ref r, nums, _, rfl, ro, h8, fun H4 r4 s4 hr4 => ?_⟩
      obtain ⟨e, rfl, he⟩ := hr4.tupI
      refine ⟨.ref r, .ref e, nums, less ts t, evb nums.length, rfl, ro.keep (same_t s4), Nat.le_trans less_len hn, ⟨e, rfl, .inl he⟩, evb_asc, by rw [evb_len]; exact h8, fun H5 r5 s5 hr5 => ?_⟩
      obtain ⟨e5, zs, rfl, he5, hzs⟩ := hr5.tup
      refine ⟨e5, zs, rfl, .inr (SqT.of he5), _, 1, rfl, rfl, ?_⟩
      have el := hzs.len
      rw [List.length_map] at el
      have eb : decide ((1 : Int) < (zs.length : Int)) = brg ts nums.length t := by
        unfold brg
        rw [el]
        exact decide_eq_decide.mpr (by omega)
      show Q (.bl (decide ((1 : Int) < (zs.length : Int)))) H5
      rw [eb]
      exact q _ (sm3.trans (s4.trans s5))
/-! ### bridges -/
abbrev dBrs : Stmt := topS 29
theorem scBrs : FnScope ["web", "tie"] ["web"] (defScope dBrs) := ⟨rfl, rfl, rfl, by decide +kernel, rfl, by decide +kernel, by decide +kernel⟩
def spBrs : Sp := fun vs H Q _ => ∃ (v : V) (nums : List Int) (ts : List Tie), vs = [v] ∧ Rp H v (eW nums ts) ∧ Good nums ts ∧ ∀ H' r, Same H H' → Rp H' r (eTs (ts.filter (brg ts nums.length))) → Q r H'
theorem cBrs (D : Stand K mg "bridges" dBrs) (B : Blt mg) (C1 : Cal P w K mg base 4 "need_web" spNeed) (C2 : Cal P w K mg base 4 "is_bridge" spIsBr) : Cal P w K mg base 5 "bridges" spBrs := by
  refine cal_of D scBrs (fun _ _ _ _ _ _ us hl => match us, hl with | [_], _ => rfl) (fun vs H Q E h => ?_) (fun f cdv A outer s H vs Q E hr h => ?_)
  · obtain ⟨v, nums, ts, rfl, _⟩ := h
    rfl
  · obtain ⟨v, nums, ts, rfl, hv, g, q⟩ := h
    obtain ⟨a, b, c, rfl, ha, hb, xs, hc, hl⟩ := hv.web
    refine ⟨_, pss_cons (ps_expr (pcl C1 hr (by decide) (by rfl) (pa_cons (pv 0) pa_nil)))
      (pss_one (ps_ret (pe_tupleOf (by rfl) B.tuple (pe_lc (own := [("tie", 1)]) (g := gName 1) rfl scBrs.nd (pi_tup (pe_ix ix_tup (pv 0) pe_int (fun _ _ => rfl)))
          (blkOk_by (N := ["web", "tie"]) (sc := defScope dBrs) (by decide +kernel)) (fun _ _ _ _ _ => pg_name (i := 1) scBrs.nd rfl (Or.inl rfl))
          (fun _ _ _ _ _ => pts_one (pt_val (pcl C2 hr (by decide) (by rfl) (pa_cons (pv 0) (pa_cons (pv 1) pa_nil))))) (fun _ _ _ _ _ => pv 1))))), ?_⟩
    refine ⟨.ref a, rfl, .ref a, nums, ts, rfl, hv, g, fun H1 s1 => ?_⟩
    refine ⟨.ref a, rfl, a, _, 1, .ref c, rfl, rfl, SqT.of (s1 _ _ ha), atI_nat (j := 1) rfl, c, rfl, ⟨_, SqT.of (s1 _ _ hc)⟩, fun D nD => lcP ts eP (brg ts nums.length) id eP (walkT (by rw [hl.len, List.length_map])) nD (fun H2 s2 => SqT.of (s2 _ _ (s1 _ _ hc))) (by have := g.t60; omega) (yAt (hl.keep (same_t s1))) ?_ ?_⟩
    · intro x y H2 R R' hx s2 ry hT hF
      refine ⟨rfl, .ref a, rfl, y, rfl, .ref a, y, nums, ts, x, rfl, hv.keep (same_t (s1.trans s2)), g.t60, g.n8, ry, fun H3 s3 => ⟨_, rfl, ?_⟩⟩
      cases hb : brg ts nums.length x with
      | true => exact iteT ⟨y, rfl, hT hb _ _ s3 (ry.keep (same_t s3))⟩
      | false => exact iteF (hF hb _ s3)
    · intro H2 ys s2 hD rp
      rw [List.map_id] at rp
      exact .inl ⟨D, ys, rfl, SqL.of hD, fun o no => q _ _ (sUpd (s1.trans s2) no) (Rp.new no rp)⟩
/-! ### costs_without -/
abbrev dCW : Stmt := topS 30
abbrev nCW : List Str := ["web", "found", "tie", "other", "one", "person"]
theorem scCW : FnScope nCW ["web"] (defScope dCW) := ⟨rfl, rfl, rfl, by decide +kernel, rfl, by decide +kernel, by decide +kernel⟩
def spCW : Sp := fun vs H Q _ => ∃ (v : V) (nums : List Int) (ts : List Tie), vs = [v] ∧ Rp H v (eW nums ts) ∧ Good nums ts ∧ ∀ H' r, Same H H' → Rp H' r (eCs ts nums) → Q r H'
theorem cCW (D : Stand K mg "costs_without" dCW) (B : Blt mg) (C1 : Cal P w K mg base 4 "need_web" spNeed) (C2 : Cal P w K mg base 4 "is_bridge" spIsBr) (C3 : Cal P w K mg base 5 "cost_of" spCost) (C4 : Cal P w K mg base 1 "everybody" spEvb) : Cal P w K mg base 6 "costs_without" spCW := by
  refine cal_of D scCW (fun _ _ _ _ _ _ us hl => match us, hl with | [_], _ => rfl) (fun vs H Q E h => ?_) (fun f cdv A outer s H vs Q E hr h => ?_)
  · obtain ⟨v, nums, ts, rfl, _⟩ := h
    rfl
  · obtain ⟨v, nums, ts, rfl, hv, g, q⟩ := h
    obtain ⟨a, b, c, rfl, ha, hb, xs, hc, hl⟩ := hv.web
    refine ⟨_, pss_cons (ps_expr (pcl C1 hr (by decide) (by rfl) (pa_cons (pv 0) pa_nil)))
      (pss_cons (ps_set (i := 1) scCW.nd rfl (.inl rfl) (pe_lst pa_nil))
      (pss_cons (ps_for PassesOwn.never rfl (pi_tup (pe_ix ix_tup (pv 0) pe_int (fun _ _ => rfl))) (pg_name (i := 2) scCW.nd rfl (.inr rfl))
        (pss_one (ps_if (pt_not (pt_val (pcl C2 hr (by decide) (by rfl) (pa_cons (pv 0) (pa_cons (pv 2) pa_nil)))))
          (pss_cons (ps_set (i := 3) scCW.nd rfl (.inr rfl) (pe_tup (pa_cons (pe_ix ix_tup (pv 0) pe_int (fun _ _ => rfl)) (pa_cons (pe_tupleOf (by rfl) B.tuple (pe_lc (own := [("one", 4)]) (g := gName 4) rfl scCW.nd (pi_tup (pe_ix ix_tup (pv 0) pe_int (fun _ _ => rfl)))
            (blkOk_by (N := nCW) (sc := defScope dCW) (by decide +kernel)) (fun _ _ _ _ _ => pg_name (i := 4) scCW.nd rfl (Or.inl rfl))
            (fun _ _ _ _ _ => pts_one (pt_cmpR (neS K hr.units) (pv 4) (pv 2) (nomark _))) (fun _ _ _ _ _ => pv 4))) pa_nil))))
          (pss_one (ps_expr (pe_bm PySem.F.plainAttrs_list PySem.F.slot_list_append PySem.F.type_list_append mt_append (pv 1) (pa_cons (pe_tup (pa_cons (pv 2) (pa_cons (pe_tupleOf (by rfl) B.tuple (pe_lc (own := [("person", 5)]) (g := gName 5) rfl scCW.nd (pi_tup (pcl C4 hr (by decide) (by rfl) (pa_cons (pv 0) pa_nil)))
            (blkOk_by (N := nCW) (sc := defScope dCW) (by decide +kernel)) (fun _ _ _ _ _ => pg_name (i := 5) scCW.nd rfl (Or.inl rfl)) (fun _ _ _ _ _ => pts_nil)
            (fun _ _ _ _ _ => pcl C3 hr (by decide) (by rfl) (pa_cons (pv 3) (pa_cons (pe_tup (pa_cons (pv 5) pa_nil)) pa_nil))))) pa_nil))) pa_nil))))) pss_nil)))
      (pss_one (ps_ret (pe_tupleOf (by rfl) B.tuple (pv 1)))))), ?_⟩
    refine ⟨.ref a, rfl, .ref a, nums, ts, rfl, hv, g, fun H1 s1 => ⟨Nat.zero_le _, fun o no => ?_⟩⟩
    have no' : H o = none := Same.free s1 no
    have s2 : Same H (upd H1 o (.lst [])) := sUpd s1 no
    have hxl : xs.length = ts.length := by rw [hl.len, List.length_map]
    refine ⟨.ref a, rfl, a, _, 1, .ref c, rfl, rfl, SqT.of (s2 _ _ ha), atI_nat (j := 1) rfl, c, rfl, ⟨_, SqT.of (s2 _ _ hc)⟩, for_it (walkT hxl) (fun i σ H' => ∃ y2 y3 fx, σ = [some (.ref a), some (.ref o), y2, y3, none, none] ∧ Same H H' ∧ H' o = some (.lst fx) ∧ RpL H' fx (((ts.take i).filter fun t => !brg ts nums.length t).map (eC ts nums)))
      ⟨none, none, [], rfl, s2, upd_same, .nil⟩ (fun i σ H' _ ⟨_, _, _, _, sm, _⟩ => SqT.of (sm _ _ hc)) ?_ ?_⟩
    · rintro i x σ H2 H2' hi ⟨y2, y3, fx, rfl, sm, ho, rf⟩ ⟨rfl, hx⟩
      obtain ⟨d, hd, rx⟩ := hl.get' hx
      rw [List.getElem?_map, List.getElem?_eq_getElem hi] at hd
      have hd' := Option.some.inj hd
      subst hd'
      have tk : ts.take (i + 1) = ts.take i ++ [ts[i]] := by
        rw [List.take_add_one, List.getElem?_eq_getElem hi]
        rfl
      have hfl : fx.length ≤ 60 := by
        rw [rf.len, List.length_map]
        have e1 := List.length_filter_le (fun t => !brg ts nums.length t) (ts.take i)
        have e2 : (ts.take i).length ≤ ts.length := by
          rw [List.length_take]
          omega
        have := g.t60
        omega
      revert tk rx
      generalize ts[i] = t
      intro rx tk
      have rx2 := rx.keep (same_t sm)
      refine ⟨.ref a, rfl, x, rfl, .ref a, x, nums, ts, t, rfl, hv.keep (same_t sm), g.t60, g.n8, rx2, fun H3 s3 => ⟨_, rfl, ?_⟩⟩
      have sm3 := sm.trans s3
      have ho3 := s3 _ _ ho
      have rf3 := rf.keep (same_t s3)
      cases hbr : brg ts nums.length t with
      | true =>
        refine iteF ⟨_, _, fx, rfl, sm3, ho3, ?_⟩
        rw [tk, List.filter_append, List.filter_cons_of_neg (by rw [hbr]; exact Bool.false_ne_true), List.filter_nil, List.append_nil]
        exact rf3
      | false =>
        refine iteT ?_
        have hcn := brg_conn hbr
        have rx3 := rx.keep (same_t sm3)
        refine ⟨.ref a, rfl, a, _, 0, .ref b, rfl, rfl, SqT.of (sm3 _ _ ha), atI_nat (j := 0) rfl, .ref a, rfl, a, _, 1, .ref c, rfl, rfl, SqT.of (sm3 _ _ ha), atI_nat (j := 1) rfl, c, rfl, ⟨_, SqT.of (sm3 _ _ hc)⟩, fun D nD => lcP ts eP (fun y => !decide (y = t)) id eP (walkT hxl) nD (fun H4 s4 => SqT.of (s4 _ _ (sm3 _ _ hc))) (by have := g.t60; omega) (yAt (hl.keep (same_t sm3))) ?_ ?_⟩
        · intro z y H4 R R' hz s4 ry hT hF
          refine ⟨rfl, y, rfl, x, rfl, ne_pairs K ry (rx3.keep (same_t s4)) ⟨_, rfl, ?_⟩⟩
          by_cases c : z = t
          · rw [decide_eq_true c]
            exact iteF (hF (by rw [decide_eq_true c]; rfl) _ (Same.refl _))
          · rw [decide_eq_false c]
            exact iteT ⟨y, rfl, hT (by rw [decide_eq_false c]; rfl) _ _ (Same.refl _) ry⟩
        · intro H4 ys s4 hD rp
          rw [List.map_id] at rp
          refine .inl ⟨D, ys, rfl, SqL.of hD, fun u nu => ⟨by show 2 ≤ sizeLine; decide, fun r nr => ?_⟩⟩
          have t2 : Same H4 (upd H4 u (.tup ys)) := same_new nu
          have t3 : Same (upd H4 u (.tup ys)) (upd (upd H4 u (.tup ys)) r (.tup [.ref b, .ref u])) := same_new nr
          have sm4 := sm3.trans s4
          have ro : Rp (upd (upd H4 u (.tup ys)) r (.tup [.ref b, .ref u])) (.ref r) (eW nums (less ts t)) :=
            rp_web2 upd_same (t3 _ _ (t2 _ _ (sm4 _ _ hb))) (t3 _ _ upd_same) ((rp.keep (same_t t2)).keep (same_t t3))
          have s5 := s4.trans (t2.trans t3)
          generalize upd (upd H4 u (.tup ys)) r (.tup [.ref b, .ref u]) = H5 at ro s5
          have sm5 := sm3.trans s5
          -- found.append((tie, costs))
          have ho5 := s5 _ _ ho3
          refine ⟨.ref o, rfl, .inl ⟨rfl, _, SqL.of ho5⟩, x, rfl, .ref a, rfl, .ref a, nums, ts, rfl, hv.keep (same_t sm5), g.n8, fun H6 r6 s6 hr6 => ?_⟩
          obtain ⟨e6, rfl, he6⟩ := hr6.tupI
          refine ⟨e6, rfl, ⟨_, SqT.of he6⟩, fun D2 nD2 => lcP (evb nums.length) Dt.i (fun _ => true) (fun z => ((deepL (adj (less ts t)) (oth nums.length z) nums z).length : Int)) Dt.i (walkT (by rw [List.length_map])) nD2 (fun H7 s7 => SqT.of (s7 _ _ he6)) (by rw [evb_len]; have := g.n8; omega) (yAt (rpl_ints _)) ?_ ?_⟩
          · intro z y H7 R R' hz s7 ry hT hF
            cases ry
            refine ⟨rfl, (iteT ?_ : if true = true then _ else R' H7)⟩
            refine ⟨.ref r, rfl, .int z, rfl, by show 1 ≤ sizeLine; decide, fun k nk => ⟨.ref r, .ref k, nums, less ts t, z, rfl, (ro.keep (same_t (s6.trans s7))).keep (sameT_new nk), Nat.le_trans less_len g.t60, g.n8, rp_tupI (ns := [z]) upd_same, hz, hcn, fun H8 s8 => ?_⟩⟩
            exact hT rfl _ _ ((same_new nk).trans s8) (.i _)
          · intro H7 zs s7 hD2 rz
            have ez : ((evb nums.length).filter fun _ => true) = evb nums.length := List.filter_eq_self.mpr fun _ _ => rfl
            rw [ez] at rz
            refine .inl ⟨D2, zs, rfl, SqL.of hD2, fun k nk => ⟨by show 2 ≤ sizeLine; decide, fun m nm => ?_⟩⟩
            have t8 : Same H7 (upd H7 k (.tup zs)) := same_new nk
            have t9 : Same (upd H7 k (.tup zs)) (upd (upd H7 k (.tup zs)) m (.tup [x, .ref k])) := same_new nm
            have s9 := s6.trans (s7.trans (t8.trans t9))
            have rm : Rp (upd (upd H7 k (.tup zs)) m (.tup [x, .ref k])) (.ref m) (eC ts nums t) :=
              .t upd_same (.cons (rx.keep (same_t (sm5.trans s9))) (.cons (.t (t9 _ _ upd_same) ((rz.keep (same_t t8)).keep (same_t t9))) .nil))
            have ho9 := s9 _ _ ho5
            have rf9 := (rf3.keep (same_t s5)).keep (same_t s9)
            have sm9 := sm5.trans s9
            generalize upd (upd H7 k (.tup zs)) m (.tup [x, .ref k]) = H9 at rm ho9 rf9 sm9
            refine ⟨o, _, _, rfl, rfl, ho9, small60 (by omega), ?_⟩
            have stl := sameT_lst (o := .lst (fx ++ [.ref m])) ho9
            refine ⟨_, _, fx ++ [.ref m], rfl, sOwn sm9 no', upd_same, ?_⟩
            rw [tk, List.filter_append, List.map_append, List.filter_cons_of_pos (by rw [hbr]; rfl)]
            exact (rf9.keep stl).append (RpL.one (rm.keep stl))
    · rintro σ H2 ⟨y2, y3, fx, rfl, sm, ho, rf⟩
      rw [List.take_length] at rf
      exact ⟨.ref o, rfl, .inl ⟨o, _, rfl, SqL.of ho, fun u nu => q _ _ (sUpd sm nu) (Rp.new nu rf)⟩⟩
/-! ### worst_numbers -/
abbrev dWorst : Stmt := topS 31
abbrev nWorst : List Str := ["web", "person", "top", "one"]
theorem scWorst : FnScope nWorst ["web", "person"] (defScope dWorst) := ⟨rfl, rfl, rfl, by decide +kernel, rfl, by decide +kernel, by decide +kernel⟩
def spWorst : Sp := fun vs H Q _ => ∃ (v : V) (nums : List Int) (ts : List Tie) (p : Int), vs = [v, .int p] ∧ Rp H v (eW nums ts) ∧ Good nums ts ∧ p ∈ evb nums.length ∧ (∀ x ∈ nums, x < 1000) ∧
  ∀ H' r m, Same H H' → m ∈ nums → (∀ y ∈ nums, y ≤ m) → Rp H' r (eW (nums.take p.toNat ++ [m + 1] ++ nums.drop (p.toNat + 1)) ts) → Q r H'
theorem cWorst (D : Stand K mg "worst_numbers" dWorst) (B : Blt mg) (Z : Cst mg) (C1 : Cal P w K mg base 4 "need_web" spNeed) (C2 : Cal P w K mg base 3 "need_person" spNeedP) (C3 : Cal P w K mg base 1 "everybody" spEvb) : Cal P w K mg base 5 "worst_numbers" spWorst := by
  obtain ⟨tv, zv⟩ := Z.mv
  refine cal_of D scWorst (fun _ _ _ _ _ _ us hl => match us, hl with | [_, _], _ => rfl) (fun vs H Q E h => ?_) (fun f cdv A outer s H vs Q E hr h => ?_)
  · obtain ⟨v, nums, ts, p, rfl, _⟩ := h
    rfl
  · obtain ⟨v, nums, ts, p, rfl, hv, g, hp, hsm, q⟩ := h
    obtain ⟨a, b, c, rfl, ha, hb, xs, hc, hl⟩ := hv.web
    refine ⟨_, pss_cons (ps_expr (pcl C1 hr (by decide) (by rfl) (pa_cons (pv 0) pa_nil)))
      (pss_cons (ps_expr (pcl C2 hr (by decide) (by rfl) (pa_cons (pv 0) (pa_cons (pv 1) pa_nil))))
      (pss_cons (ps_set (i := 2) scWorst.nd rfl (.inr rfl) (pe_op op_add (pe_callB (cr_maxT rfl) (by rfl) B.max (by decide +kernel) (pa_cons (pe_ix ix_tup (pv 0) pe_int (fun _ _ => rfl)) pa_nil)) pe_int))
      (pss_cons (ps_if (pt_cmpR op_gt (pv 2) (pe_glob (v := .int 1000) (by rfl) zv ⟨_, rfl⟩) (nomark _)) (pss_one ps_never) pss_nil)
      (pss_one (ps_ret (pe_tup (pa_cons (pe_tupleOf (by rfl) B.tuple (pe_lc (own := [("one", 3)]) (g := gName 3) rfl scWorst.nd (pi_tup (pcl C3 hr (by decide) (by rfl) (pa_cons (pv 0) pa_nil)))
          (blkOk_by (N := nWorst) (sc := defScope dWorst) (by decide +kernel)) (fun _ _ _ _ _ => pg_name (i := 3) scWorst.nd rfl (Or.inl rfl)) (fun _ _ _ _ _ => pts_nil)
          (fun _ _ _ _ _ => pe_ifExp (pt_cmpR op_eq (pv 3) (pv 1) (nomark _)) (pv 2) (pe_ix (ixT K) (pe_ix (ixT K) (pv 0) pe_int (fun _ _ => rfl)) (pv 3) (fun _ _ => rfl)))))
        (pa_cons (pe_ix ix_tup (pv 0) pe_int (fun _ _ => rfl)) pa_nil)))))))), ?_⟩
    refine ⟨.ref a, rfl, .ref a, nums, ts, rfl, hv, g, fun H1 s1 => ⟨.ref a, rfl, .int p, rfl, .ref a, nums, ts, p, rfl, hv.keep (same_t s1), hp, ?_⟩⟩
    refine ⟨.ref a, rfl, a, _, 0, .ref b, rfl, rfl, SqT.of (s1 _ _ ha), atI_nat (j := 0) rfl, b, nums, rfl, SqT.of (s1 _ _ hb), by have := g.n1; omega, fun m hm hle => ?_⟩
    refine ⟨m, 1, rfl, rfl, .int (m + 1), rfl, m + 1, 1000, rfl, rfl, false, congrArg V.bl (decide_eq_false (by have := hsm m hm; omega)), iteF ?_⟩
    refine ⟨.ref a, rfl, .ref a, nums, ts, rfl, hv.keep (same_t s1), g.n8, fun H2 r2 s2 hr2 => ?_⟩
    obtain ⟨e, rfl, he⟩ := hr2.tupI
    have sm2 := s1.trans s2
    refine ⟨e, rfl, ⟨_, SqT.of he⟩, fun D nD => lcP (evb nums.length) Dt.i (fun _ => true) (fun o => if o = p then m + 1 else numOf nums o) Dt.i (walkT (by rw [List.length_map])) nD (fun H3 s3 => SqT.of (s3 _ _ he)) (by rw [evb_len]; have := g.n8; omega) (yAt (rpl_ints _)) ?_ ?_⟩
    · intro x y H3 R R' hx s3 ry hT hF
      cases ry
      have sm3 := sm2.trans s3
      refine ⟨rfl, (iteT ?_ : if true = true then _ else R' H3)⟩
      refine ⟨.int x, rfl, .int p, rfl, rfl, _, rfl, ?_⟩
      by_cases c : x = p
      · refine (show if decide (V.int x = V.int p) = true then _ else _ from ?_)
        rw [decide_eq_true (congrArg V.int c)]
        refine iteT ⟨.int (m + 1), rfl, hT rfl _ _ (Same.refl _) ?_⟩
        rw [if_pos c]
        exact .i _
      · refine (show if decide (V.int x = V.int p) = true then _ else _ from ?_)
        rw [decide_eq_false (fun z => c (V.int.inj z))]
        have hg := numOf_get hx
        have hx0 := (mem_evb.mp hx).1
        have gx : atI (nums.map V.int) x = some (.int (numOf nums x)) := by
          have ex : x = ((x.toNat : Nat) : Int) := by omega
          rw [ex]
          refine atI_nat ?_
          rw [List.getElem?_map, ← ex, hg]
          rfl
        refine iteF ⟨.ref a, rfl, a, _, 0, .ref b, rfl, rfl, SqT.of (sm3 _ _ ha), atI_nat (j := 0) rfl, .int x, rfl, b, _, x, _, rfl, rfl, SqT.of (sm3 _ _ hb), gx, hT rfl _ _ (Same.refl _) ?_⟩
        rw [if_neg c]
        exact .i _
    · intro H3 ys s3 hD rp
      have ez : ((evb nums.length).filter fun _ => true) = evb nums.length := List.filter_eq_self.mpr fun _ _ => rfl
      rw [ez, worst_eq hp] at rp
      have sm3 := sm2.trans s3
      refine .inl ⟨D, ys, rfl, SqL.of hD, fun u nu => ?_⟩
      have t4 : Same H3 (upd H3 u (.tup ys)) := same_new nu
      refine ⟨.ref a, rfl, a, _, 1, .ref c, rfl, rfl, SqT.of (t4 _ _ (sm3 _ _ ha)), atI_nat (j := 1) rfl, by show 2 ≤ sizeLine; decide, fun r nr => ?_⟩
      have t5 : Same (upd H3 u (.tup ys)) (upd (upd H3 u (.tup ys)) r (.tup [.ref u, .ref c])) := same_new nr
      have sm5 := sm3.trans (t4.trans t5)
      refine q _ _ m sm5 hm hle (.t upd_same (.cons (.t (t5 _ _ upd_same) ((rp.keep (same_t t4)).keep (same_t t5))) (.cons (.t (sm5 _ _ hc) (hl.keep (same_t sm5))) .nil)))
end
end K16
namespace K16
open PySem PySem.Spec PyProof.Rows L2 Classical
section
variable {P : Program} {w : World} {K : PySem.W.Frag} {mg : Str → Option Value} {base : Heap}
/-! ### _law_rest -/
abbrev dRest : Stmt := topS 38
abbrev nRest : List Str := ["_law_web_here", "_law_lot", "_law_person"]
theorem scRest : FnScope nRest ["_law_web_here", "_law_lot"] (defScope dRest) := ⟨rfl, rfl, rfl, by decide +kernel, rfl, by decide +kernel, by decide +kernel⟩
theorem cRest (D : Stand K mg "_law_rest" dRest) (B : Blt mg) : Cal P w K mg base 1 "_law_rest" spOthers := by
  refine cal_of D scRest (fun _ _ _ _ _ _ us hl => match us, hl with | [_, _], _ => rfl) (fun vs H Q E h => ?_) (fun f cdv A outer s H vs Q E hr h => ?_)
  · obtain ⟨v, u, nums, ts, p, rfl, _⟩ := h
    rfl
  · obtain ⟨v, u, nums, ts, p, rfl, hv, hn, hu, q⟩ := h
    obtain ⟨a, b, c, rfl, ha, hb, xs, hc, hl⟩ := hv.web
    obtain ⟨e, rfl, he⟩ := hu.tupI
    refine ⟨_, pss_one (ps_ret (pe_tupleOf (by rfl) B.tuple (pe_lc (own := [("_law_person", 2)]) (g := gName 2) rfl scRest.nd (pi_range1 (by rfl) B.range (pa_cons (pe_callB call_len_seq (by rfl) B.len PySem.boot_len (pa_cons (pe_ix ix_tup (pv 0) pe_int (fun _ _ => rfl)) pa_nil)) pa_nil))
      (blkOk_by (N := nRest) (sc := defScope dRest) (by decide +kernel)) (fun _ _ _ _ _ => pg_name (i := 2) scRest.nd rfl (Or.inl rfl))
      (fun _ _ _ _ _ => pts_one (pt_cmpR (opNotIn K) (pv 2) (pv 1) (by rfl))) (fun _ _ _ _ _ => pv 2)))), ?_⟩
    have hnl : (nums.map V.int).length = nums.length := List.length_map ..
    refine ⟨.ref a, rfl, a, _, 0, .ref b, rfl, rfl, SqT.of ha, atI_nat (j := 0) rfl, b, _, rfl, .inr (SqT.of hb), _, rfl, by omega, by omega, fun D nD => ?_⟩
    have hw : Walk (Itr 0 ((nums.map V.int).length : Int).toNat) (evb nums.length).length (fun _ => True) (YFn fun i => .int (0 + (i : Int))) := by
      rw [evb_len, hnl, Int.toNat_natCast]
      exact walk_range
    refine lcP (evb nums.length) Dt.i (fun x => !decide (x ∈ [p])) id Dt.i hw nD (fun _ _ => True.intro) (by rw [evb_len]; omega) yFn ?_ ?_
    · intro x y H2 R R' hx s2 ry hT hF
      cases ry
      refine ⟨rfl, .int x, rfl, .ref e, rfl, e, _, rfl, .inr (SqT.of (s2 _ _ he)), rfl, flat_ints _, _, rfl, ?_⟩
      show if (!inV (.int x) ([p].map V.int)) = true then _ else _
      rw [inV_ints]
      by_cases c : x ∈ [p]
      · rw [decide_eq_true c]
        exact iteF (hF (by rw [decide_eq_true c]; rfl) _ (Same.refl _))
      · rw [decide_eq_false c]
        exact iteT ⟨.int x, rfl, hT (by rw [decide_eq_false c]; rfl) _ _ (Same.refl _) (.i x)⟩
    · intro H2 ys s2 hD rp
      refine .inl ⟨D, ys, rfl, SqL.of hD, fun o no => q _ _ (sUpd s2 no) (Rp.new no ?_)⟩
      rw [List.map_id] at rp
      exact rp
/-! ### _law_ties -/
abbrev dLTies : Stmt := topS 36
abbrev nLTies : List Str := ["_law_web_here", "_law_person", "_law_one", "_law_other"]
theorem scLTies : FnScope nLTies ["_law_web_here", "_law_person"] (defScope dLTies) := ⟨rfl, rfl, rfl, by decide +kernel, rfl, by decide +kernel, by decide +kernel⟩
theorem cLTies (D : Stand K mg "_law_ties" dLTies) (B : Blt mg) : Cal P w K mg base 1 "_law_ties" spTied := by
  refine cal_of D scLTies (fun _ _ _ _ _ _ us hl => match us, hl with | [_, _], _ => rfl) (fun vs H Q E h => ?_) (fun f cdv A outer s H vs Q E hr h => ?_)
  · obtain ⟨v, nums, ts, p, rfl, _⟩ := h
    rfl
  · obtain ⟨v, nums, ts, p, rfl, hv, hn, q⟩ := h
    obtain ⟨a, b, c, rfl, ha, hb, xs, hc, hl⟩ := hv.web
    refine ⟨_, pss_one (ps_ret (pe_callB cr_sortedI (by rfl) B.sorted (by decide +kernel) (pa_cons (pe_lc (own := [("_law_one", 2), ("_law_other", 3)]) rfl scLTies.nd (pi_tup (pe_ix ix_tup (pv 0) pe_int (fun _ _ => rfl)))
      (blkOk_by (N := nLTies) (sc := defScope dLTies) (by decide +kernel)) (fun _ _ _ _ _ => pgT K (n := 2) rfl (pgs_cons (pg_name (i := 2) scLTies.nd rfl (Or.inl rfl)) (pgs_cons (pg_name (i := 3) scLTies.nd rfl (Or.inl rfl)) pgs_nil)))
      (fun _ _ _ _ _ => pts_one (pt_cmpR (opIn K) (pv 1) (pe_tup (pa_cons (pv 2) (pa_cons (pv 3) pa_nil))) (by rfl))) (fun _ _ _ _ _ => pe_op op_sub (pe_op op_add (pv 2) (pv 3)) (pv 1))) pa_nil))), ?_⟩
    refine ⟨.ref a, rfl, a, _, 1, .ref c, rfl, rfl, SqT.of ha, atI_nat (j := 1) rfl, c, rfl, ⟨_, SqT.of hc⟩, fun D nD => lcP ts eP (fun t => decide (p ∈ [t.1, t.2])) (fun t => t.1 + t.2 - p) Dt.i (walkT (by rw [hl.len, List.length_map])) nD (fun H1 s1 => SqT.of (s1 _ _ hc)) (by omega) (yAt hl) ?_ ?_⟩
    · intro t y H1 R R' ht s1 ry hT hF
      obtain ⟨e, rfl, he⟩ := ry.pair
      refine ⟨e, _, rfl, SqT.of he, rfl, .int t.1, _, rfl, .int t.2, [], rfl, rfl, rfl, ?_⟩
      refine ⟨.int p, rfl, .int t.1, rfl, .int t.2, rfl, by show 2 ≤ sizeLine; decide, fun u nu => ⟨u, _, rfl, .inr (SqT.of upd_same), rfl, rfl, _, rfl, ?_⟩⟩
      have ein : inV (.int p) [V.int t.1, V.int t.2] = decide (p ∈ [t.1, t.2]) := inV_ints p [t.1, t.2]
      show if (inV (.int p) [V.int t.1, V.int t.2]) = true then _ else _
      rw [ein]
      by_cases cc : p ∈ [t.1, t.2]
      · rw [decide_eq_true cc]
        exact iteT ⟨.int t.1, rfl, .int t.2, rfl, t.1, t.2, rfl, rfl, .int p, rfl, t.1 + t.2, p, rfl, rfl, hT (decide_eq_true cc) _ _ (same_new nu) (.i _)⟩
      · rw [decide_eq_false cc]
        exact iteF (hF (decide_eq_false cc) _ (same_new nu))
    · intro H1 ys s1 hD rp
      have ey := rp.ints
      subst ey
      refine ⟨D, nbs ts p, rfl, SqL.of hD, fun ns u hperm _ nu => ?_⟩
      refine q _ u ns (sUpd s1 nu) (Same.free s1 nu) upd_same ?_ fun z => ?_
      · have := nbs_len (ts := ts) (p := p)
        rw [hperm.length_eq]
        omega
      · rw [hperm.mem_iff]
        exact mem_nbs
/-! ### _law_border -/
abbrev dLBorder : Stmt := topS 39
abbrev nLBorder : List Str := ["_law_web_here", "_law_part", "_law_lot", "_law_one", "_law_other"]
theorem scLBorder : FnScope nLBorder ["_law_web_here", "_law_part", "_law_lot"] (defScope dLBorder) := ⟨rfl, rfl, rfl, by decide +kernel, rfl, by decide +kernel, by decide +kernel⟩
theorem cLBorder (D : Stand K mg "_law_border" dLBorder) (B : Blt mg) (C1 : Cal P w K mg base 1 "_law_ties" spTied) : Cal P w K mg base 2 "_law_border" spBorder := by
  refine cal_of D scLBorder (fun _ _ _ _ _ _ us hl => match us, hl with | [_, _, _], _ => rfl) (fun vs H Q E h => ?_) (fun f cdv A outer s H vs Q E hr h => ?_)
  · obtain ⟨v, u, x, nums, ts, part, p, rfl, _⟩ := h
    rfl
  · obtain ⟨v, u, x, nums, ts, part, p, rfl, hv, hn, hu, hx, hz, q⟩ := h
    obtain ⟨c, rfl, hc⟩ := hu.tupI
    obtain ⟨d, rfl, hd⟩ := hx.tupI
    refine ⟨_, pss_one (ps_ret (pe_tupleOf (by rfl) B.tuple (pe_lc (own := [("_law_one", 3)]) (g := gName 3) rfl scLBorder.nd (pi_tup (pv 2))
      (blkOk_by (N := nLBorder) (sc := defScope dLBorder) (by decide +kernel)) (fun _ _ _ _ _ => pg_name (i := 3) scLBorder.nd rfl (Or.inl rfl))
      (fun _ _ _ _ _ => pts_one (pt_cmpR (neS K hr.units) (pe_lc (own := [("_law_other", 4)]) (g := gName 4) rfl scLBorder.nd (piL K (pcl C1 hr (by decide) (by rfl) (pa_cons (pv 0) (pa_cons (pv 3) pa_nil))))
        (blkOk_by (N := nLBorder) (sc := relS (lcScope (arg0 (retE (nthS dLBorder 0)))) (defScope dLBorder)) (by decide +kernel)) (fun _ _ _ _ _ => pg_name (i := 4) scLBorder.nd rfl (Or.inl rfl))
        (fun _ _ _ _ _ => pts_one (pt_cmpR (opIn K) (pv 4) (pv 1) (by rfl))) (fun _ _ _ _ _ => pv 4)) (pe_lst pa_nil) (nomark _))) (fun _ _ _ _ _ => pv 3)))), ?_⟩
    refine ⟨.ref d, rfl, d, rfl, ⟨_, SqT.of hd⟩, fun D nD => lcP [p] Dt.i (fun _ => true) id Dt.i (walkT rfl) nD (fun H2 s2 => SqT.of (s2 _ _ hd)) (by show 1 ≤ 5000; decide) (yAt (rpl_ints _)) ?_ ?_⟩
    · intro a y H2 R R' ha s2 ry hT hF
      cases ry
      have ea : a = p := List.mem_singleton.mp ha
      subst ea
      refine ⟨rfl, v, rfl, .int a, rfl, v, nums, ts, a, rfl, hv.keep (same_t s2), hn, fun H3 o ns s3 no ho hl hm => ?_⟩
      refine ⟨o, rfl, ⟨_, SqL.of ho⟩, fun D2 nD2 => lcP ns Dt.i (fun z => decide (z ∈ part)) id Dt.i (walkL (by rw [List.length_map])) nD2 (fun H4 s4 => SqL.of (s4 _ _ ho)) (by omega) (yAt (rpl_ints _)) ?_ ?_⟩
      · intro z y H4 R2 R2' hz s4 rz hT2 hF2
        cases rz
        refine ⟨rfl, .int z, rfl, .ref c, rfl, c, _, rfl, .inr (SqT.of (s4 _ _ (s3 _ _ (s2 _ _ hc)))), rfl, flat_ints _, _, rfl, ?_⟩
        show if (inV (.int z) (part.map V.int)) = true then _ else _
        rw [inV_ints]
        by_cases cc : z ∈ part
        · rw [decide_eq_true cc]
          exact iteT ⟨.int z, rfl, hT2 (decide_eq_true cc) _ _ (Same.refl _) (.i z)⟩
        · rw [decide_eq_false cc]
          exact iteF (hF2 (decide_eq_false cc) _ (Same.refl _))
      · intro H4 ys s4 hD2 rp
        rw [List.map_id] at rp
        refine ⟨Nat.zero_le _, fun k nk => ne_nil K hD2 rp (dep_ints _) (by decide) nk ⟨_, rfl, ?_⟩⟩
        have e1 : (!((ns.filter fun z => decide (z ∈ part)).map Dt.i).isEmpty) = true := by
          obtain ⟨z, hz1, hz2⟩ := hz
          have hzf : z ∈ ns.filter fun z => decide (z ∈ part) := by simp [(hm z).mpr hz2, hz1]
          revert hzf
          generalize ns.filter (fun z => decide (z ∈ part)) = l
          intro hzf
          cases l with
          | nil => simp at hzf
          | cons _ _ => rfl
        rw [e1]
        exact iteT ⟨.int a, rfl, hT rfl _ _ (s3.trans (s4.trans (same_new nk))) (.i a)⟩
    · intro H2 ys s2 hD rp
      exact .inl ⟨D, ys, rfl, SqL.of hD, fun o no => q _ _ (sUpd s2 no) (Rp.new no rp)⟩
end
end K16
namespace K16
open PySem PySem.Spec PyProof.Rows L2 Classical
theorem numAt {nums : List Int} {x : Int} (h : x ∈ evb nums.length) : atI (nums.map V.int) x = some (.int (numOf nums x)) := by
  have hg := numOf_get h
  have hx0 := (mem_evb.mp h).1
  have ex : x = ((x.toNat : Nat) : Int) := by omega
  rw [ex]
  refine atI_nat ?_
  rw [List.getElem?_map, ← ex, hg]
  rfl
theorem passT_yes {lot l : List Int} {t : Tie} (h1 : t.1 ∈ lot) (h2 : t.2 ∈ lot) (h3 : ¬ (t.1 ∈ l ↔ t.2 ∈ l)) : passT lot l t = l ++ [if t.1 ∈ l then t.2 else t.1] := if_pos ⟨h1, h2, h3⟩
theorem passT_no {lot l : List Int} {t : Tie} (h : ¬ (t.1 ∈ lot ∧ t.2 ∈ lot ∧ ¬ (t.1 ∈ l ↔ t.2 ∈ l))) : passT lot l t = l := if_neg h
section
variable {P : Program} {w : World} {K : PySem.W.Frag} {mg : Str → Option Value} {base : Heap}
/-! ### _law_parts -/
abbrev dLParts : Stmt := topS 37
abbrev nLParts : List Str := ["_law_web_here", "_law_lot", "_law_found", "_law_left", "_law_some", "_law_turn", "_law_one", "_law_other", "_law_person"]
theorem scLParts : FnScope nLParts ["_law_web_here", "_law_lot"] (defScope dLParts) := ⟨rfl, rfl, rfl, by decide +kernel, rfl, by decide +kernel, by decide +kernel⟩
def spLParts : Sp := fun vs H Q _ => ∃ (v u : V) (nums : List Int) (ts : List Tie) (lot : List Int), vs = [v, u] ∧ Rp H v (eW nums ts) ∧ ts.length ≤ 60 ∧ Rp H u (eT lot) ∧ Asc lot ∧ lot.length ≤ 8 ∧
  ∀ (H' : Hp) (o : Addr) (fx : List V), Same H H' → H o = none → H' o = some (.lst fx) → RpL H' fx ((parts (adj ts) lot).map eT) → Q (.ref o) H'
theorem cLParts (D : Stand K mg "_law_parts" dLParts) (B : Blt mg) : Cal P w K mg base 1 "_law_parts" spLParts := by
  refine cal_of D scLParts (fun _ _ _ _ _ _ us hl => match us, hl with | [_, _], _ => rfl) (fun vs H Q E h => ?_) (fun f cdv A outer s H vs Q E hr h => ?_)
  · obtain ⟨v, u, nums, ts, lot, rfl, _⟩ := h
    rfl
  · obtain ⟨v, u, nums, ts, lot, rfl, hv, hn, hu, hasc, h8, q⟩ := h
    obtain ⟨a, b, c, rfl, ha, hb, xs, hc, hl⟩ := hv.web
    obtain ⟨e, rfl, he⟩ := hu.tupI
    have hxl : xs.length = ts.length := by rw [hl.len, List.length_map]
    refine ⟨_, pss_cons (ps_par (i := 2) (j := 3) rfl scLParts.nd rfl rfl (by decide) rfl rfl (pa_cons (pe_lst pa_nil) (pa_cons (pe_callTy call_list_of (by rfl) B.list (by decide +kernel) (pa_cons (pv 1) pa_nil)) pa_nil)) (by rfl))
      (pss_cons (ps_while PassesOwn.never (pt_cmpR (op_neD hr.units) (pv 3) (pe_lst pa_nil) (nomark _))
        (pss_cons (ps_set (i := 4) scLParts.nd rfl (.inr rfl) (pe_lst (pa_cons (pe_ix ix_list (pv 3) pe_int (fun _ _ => rfl)) pa_nil)))
        (pss_cons (ps_for PassesOwn.never rfl (pi_range1 (by rfl) B.range (pa_cons (pe_callB call_len_seq (by rfl) B.len PySem.boot_len (pa_cons (pv 3) pa_nil)) pa_nil)) (pg_name (i := 5) scLParts.nd rfl (.inl rfl))
          (pss_one (ps_for PassesOwn.never rfl (pi_tup (pe_ix ix_tup (pv 0) pe_int (fun _ _ => rfl))) (pg_tup rfl (pgs_cons (pg_name (i := 6) scLParts.nd rfl (.inl rfl)) (pgs_cons (pg_name (i := 7) scLParts.nd rfl (.inl rfl)) pgs_nil)))
            (pss_one (ps_if (PW.pt (pw_and (pt_cmpR op_in_seq (pv 6) (pv 1) (by rfl)) (pw_and (pt_cmpR op_in_seq (pv 7) (pv 1) (by rfl)) (pw_and1 (pt_cmpR op_ne (pe_cmpR op_in_seq (pv 6) (pv 4) (by rfl)) (pe_cmpR op_in_seq (pv 7) (pv 4) (by rfl)) (nomark _))))))
              (pss_one (ps_set (i := 4) scLParts.nd rfl (.inr rfl) (pe_op op_cat (pv 4) (pe_lst (pa_cons (pe_ifExp (pt_cmpR op_in_seq (pv 6) (pv 4) (by rfl)) (pv 7) (pv 6)) pa_nil))))) pss_nil)))))
        (pss_cons (ps_expr (pe_bm PySem.F.plainAttrs_list PySem.F.slot_list_append PySem.F.type_list_append mt_append (pv 2) (pa_cons (pe_tupleOf (by rfl) B.tuple (pe_callB cr_sortedI (by rfl) B.sorted (by decide +kernel) (pa_cons (pv 4) pa_nil))) pa_nil)))
        (pss_one (ps_setLc (i := 3) (own := [("_law_person", 8)]) (g := gName 8) rfl scLParts.nd rfl rfl (sw_true rfl rfl rfl (by decide +kernel)) (pi_list (pv 3))
          (blkOk_by (N := nLParts) (sc := defScope dLParts) (by decide +kernel)) (fun _ _ _ _ _ => pg_name (i := 8) scLParts.nd rfl (Or.inl rfl))
          (fun _ _ _ _ _ => pts_one (pt_cmpR (opNotIn K) (pv 8) (pv 4) (by rfl))) (fun _ _ _ _ _ => pv 8)))))))
      (pss_one (ps_ret (pv 2)))), ?_⟩
    refine ⟨Nat.zero_le _, fun o1 n1 => ?_⟩
    have s1 : Same H (upd H o1 (.lst [])) := same_new n1
    refine ⟨.ref e, rfl, e, _, rfl, .inr (SqT.of (s1 _ _ he)), fun lf nf => ⟨.ref o1, .ref lf, rfl, ?_⟩⟩
    have sy := adj_sym ts
    have g1 : (upd (upd H o1 (.lst [])) lf (.lst (lot.map V.int))) o1 = some (.lst []) := by
      rw [upd_ne (ne_of_none (upd_same (H := H) (a := o1) (o := .lst [])) nf), upd_same]
    refine ⟨fun m σ H' => ∃ y4 y5 y6 y7 lf left fs fx, σ = [some (.ref a), some (.ref e), some (.ref o1), some (.ref lf), y4, y5, y6, y7, none] ∧ Same H H' ∧ H' o1 = some (.lst fx) ∧ RpL H' fx (fs.map eT) ∧ H' lf = some (.lst (left.map V.int)) ∧ H lf = none ∧ lf ≠ o1 ∧
      left.Sublist lot ∧ Closed (adj ts) lot left ∧ fs ++ prt (adj ts) lot left = parts (adj ts) lot ∧ m = left.length,
      ⟨_, none, none, none, none, lf, lot, [], [], rfl, sUpd s1 nf, g1, .nil, upd_same, Same.free s1 nf, (ne_of_none (upd_same (H := H) (a := o1) (o := .lst [])) nf).symm, List.Sublist.refl _, closed_all, rfl, rfl⟩, ?_⟩
    rintro m σ H' ⟨y4, y5, y6, y7, lf, left, fs, fx, rfl, sm, h1, hfx, h2, nf, n12, sub, cl, eqp, rfl⟩
    refine ⟨.ref lf, rfl, Nat.zero_le _, fun o3 n3 => ne_nil K h2 (rpl_ints left) (dep_ints left) (by decide) n3 ⟨_, rfl, ?_⟩⟩
    have s3 : Same H' (upd H' o3 (.lst [])) := same_new n3
    have g1 := s3 _ _ h1
    have g2 := s3 _ _ h2
    have gx := hfx.keep (same_t s3)
    have sm3 := sm.trans s3
    generalize upd H' o3 (.lst []) = H3 at g1 g2 gx sm3
    cases left with
    | nil =>
      refine iteF ⟨.ref o1, rfl, q H3 o1 fx sm3 n1 g1 ?_⟩
      rw [prt_nil, List.append_nil] at eqp
      rw [← eqp]
      exact gx
    | cons x r =>
      refine iteT ?_
      have hx : x ∈ lot := sub.subset List.mem_cons_self
      have hl8 : (x :: r).length ≤ 8 := Nat.le_trans sub.length_le h8
      have hfl : fs.length ≤ 8 := by
        have e := congrArg List.length eqp
        rw [List.length_append] at e
        have := parts_len (A := adj ts) (L := lot)
        omega
      refine ⟨fun σ' H'' => ∃ m', m' < (x :: r).length ∧ ∃ y4 y5 y6 y7 lf left fs fx, σ' = [some (.ref a), some (.ref e), some (.ref o1), some (.ref lf), y4, y5, y6, y7, none] ∧ Same H H'' ∧ H'' o1 = some (.lst fx) ∧ RpL H'' fx (fs.map eT) ∧ H'' lf = some (.lst (left.map V.int)) ∧ H lf = none ∧ lf ≠ o1 ∧
        left.Sublist lot ∧ Closed (adj ts) lot left ∧ fs ++ prt (adj ts) lot left = parts (adj ts) lot ∧ m' = left.length, fun σ' H'' z => z, ?_⟩
      -- some = [left[0]]
      refine ⟨.ref lf, rfl, lf, _, 0, .int x, rfl, rfl, SqL.of g2, atI_nat (j := 0) rfl, by show 1 ≤ sizeLine; decide, fun s0 n0 => ?_⟩
      have t4 : Same H3 (upd H3 s0 (.lst [.int x])) := same_new n0
      have hs0 : (upd H3 s0 (.lst [V.int x])) s0 = some (.lst (([x] : List Int).map V.int)) := upd_same
      have k1 := t4 _ _ g1
      have k2 := t4 _ _ g2
      have kx := gx.keep (same_t t4)
      have sm4 := sm3.trans t4
      generalize upd H3 s0 (.lst [V.int x]) = H4 at hs0 k1 k2 kx sm4
      have hlen : ((x :: r).map V.int).length = (x :: r).length := List.length_map ..
      refine ⟨.ref lf, rfl, lf, _, rfl, .inl (SqL.of k2), _, rfl, by omega, by rw [hlen]; omega, ?_⟩
      have hw : Walk (Itr 0 (((x :: r).map V.int).length : Int).toNat) (x :: r).length (fun _ => True) (YFn fun i => .int (0 + (i : Int))) := by
        rw [hlen, Int.toNat_natCast]
        exact walk_range
      refine for_it hw (fun i σ' H'' => ∃ y5 y6 y7 sl l, σ' = [some (.ref a), some (.ref e), some (.ref o1), some (.ref lf), some (.ref sl), y5, y6, y7, none] ∧ Same H4 H'' ∧ H'' sl = some (.lst (l.map V.int)) ∧ Part ts lot x l ∧ Grown ts lot l i)
        ⟨y5, y6, y7, s0, [x], rfl, Same.refl _, hs0, Part.begin, .inr (by show 1 ≤ 1; decide)⟩ (fun _ _ _ _ _ => True.intro) ?_ ?_
      · rintro i y σ' H5 H5' hi ⟨y5, y6, y7, sl, l, rfl, sm5, hsl, pt, gr⟩ ⟨rfl, rfl⟩
        have hc5 := sm5 _ _ (sm4 _ _ hc)
        have ha5 := sm5 _ _ (sm4 _ _ ha)
        refine ⟨.ref a, rfl, a, _, 1, .ref c, rfl, rfl, SqT.of ha5, atI_nat (j := 1) rfl, c, rfl, ⟨_, SqT.of hc5⟩, for_it (walkT hxl) (fun j σ' H'' => ∃ y6 y7 sl, σ' = [some (.ref a), some (.ref e), some (.ref o1), some (.ref lf), some (.ref sl), some (.int (0 + (i : Int))), y6, y7, none] ∧ Same H4 H'' ∧
            H'' sl = some (.lst ((pass lot (ts.take j) l).map V.int)) ∧ Part ts lot x (pass lot (ts.take j) l))
          ⟨y6, y7, sl, rfl, sm5, hsl, pt⟩ (fun j σ' H'' _ ⟨_, _, _, _, s, _⟩ => SqT.of (s _ _ (sm4 _ _ hc))) ?_ ?_⟩
        · rintro j z σ' H6 H6' hj ⟨y6, y7, sl, rfl, sm6, hsl, pt⟩ ⟨rfl, hz⟩
          obtain ⟨d, hd, rz⟩ := hl.get' hz
          rw [List.getElem?_map, List.getElem?_eq_getElem hj] at hd
          have hd' := Option.some.inj hd
          subst hd'
          have tk : pass lot (ts.take (j + 1)) l = passT lot (pass lot (ts.take j) l) ts[j] := by
            unfold pass
            rw [List.take_add_one, List.getElem?_eq_getElem hj, List.foldl_append]
            rfl
          have htm : ts[j] ∈ ts := List.getElem_mem hj
          rw [tk]
          revert rz htm
          generalize ts[j] = t
          intro rz htm
          obtain ⟨k, rfl, hk⟩ := (rz.keep (same_t (sm4.trans sm6))).pair
          have he6 := sm6 _ _ (sm4 _ _ he)
          have pt' := pt.turn htm
          revert hsl pt pt'
          generalize pass lot (ts.take j) l = l'
          intro pt hsl pt'
          have l8 : l'.length ≤ 8 := Nat.le_trans (pt.len hx) h8
          refine ⟨k, _, rfl, SqT.of hk, rfl, .int t.1, _, rfl, .int t.2, [], rfl, rfl, ?_⟩
          refine ⟨.int t.1, rfl, .ref e, rfl, e, _, rfl, .inr (SqT.of he6), rfl, flat_ints _, _, rfl, ?_⟩
          show if (inV (.int t.1) (lot.map V.int)) = true then _ else _
          rw [inV_ints]
          by_cases c1 : t.1 ∈ lot
          · rw [decide_eq_true c1]
            refine iteT ⟨.int t.2, rfl, .ref e, rfl, e, _, rfl, .inr (SqT.of he6), rfl, flat_ints _, _, rfl, ?_⟩
            show if (inV (.int t.2) (lot.map V.int)) = true then _ else _
            rw [inV_ints]
            by_cases c2 : t.2 ∈ lot
            · rw [decide_eq_true c2]
              refine iteT ⟨.int t.1, rfl, .ref sl, rfl, sl, _, rfl, .inl (SqL.of hsl), rfl, flat_ints _, .int t.2, rfl, .ref sl, rfl, sl, _, rfl, .inl (SqL.of hsl), rfl, flat_ints _, rfl, _, rfl, ?_⟩
              show if (!decide (V.bl (inV (.int t.1) (l'.map V.int)) = V.bl (inV (.int t.2) (l'.map V.int)))) = true then _ else _
              rw [inV_ints, inV_ints]
              by_cases c3 : (t.1 ∈ l' ↔ t.2 ∈ l')
              · have ed : decide (t.1 ∈ l') = decide (t.2 ∈ l') := decide_eq_decide.mpr c3
                rw [ed, decide_eq_true rfl]
                refine iteF ⟨_, _, sl, rfl, sm6, ?_, pt'⟩
                rw [passT_no fun z => z.2.2 c3]
                exact hsl
              · have ed : ¬ (V.bl (decide (t.1 ∈ l')) = V.bl (decide (t.2 ∈ l'))) := fun z => c3 (decide_eq_decide.mp (V.bl.inj z))
                rw [decide_eq_false ed]
                refine iteT ⟨.ref sl, rfl, .int t.1, rfl, .ref sl, rfl, sl, _, rfl, .inl (SqL.of hsl), rfl, flat_ints _, _, rfl, ?_⟩
                show if (inV (.int t.1) (l'.map V.int)) = true then _ else _
                rw [inV_ints]
                have fin : ∀ (z : Int), z = (if t.1 ∈ l' then t.2 else t.1) → 1 ≤ sizeLine ∧ ∀ p, H6' p = none → ∃ l1 b1 xs1 zs1, V.ref sl = .ref l1 ∧ V.ref p = .ref b1 ∧ (upd H6' p (.lst [V.int z])) l1 = some (.lst xs1) ∧ (upd H6' p (.lst [V.int z])) b1 = some (.lst zs1) ∧ xs1.length + zs1.length ≤ sizeLine ∧ ∀ p1, (upd H6' p (.lst [V.int z])) p1 = none →
                    ∃ y6 y7 sl, ([some (.ref a), some (.ref e), some (.ref o1), some (.ref lf), some (.ref p1), some (.int (0 + (i : Int))), some (.int t.1), some (.int t.2), none] : L2.St) = [some (.ref a), some (.ref e), some (.ref o1), some (.ref lf), some (.ref sl), some (.int (0 + (i : Int))), y6, y7, none] ∧ Same H4 (upd (upd H6' p (.lst [V.int z])) p1 (.lst (xs1 ++ zs1))) ∧
                      (upd (upd H6' p (.lst [V.int z])) p1 (.lst (xs1 ++ zs1))) sl = some (.lst ((passT lot l' t).map V.int)) ∧ Part ts lot x (passT lot l' t) := by
                  intro z ez
                  refine ⟨by decide, fun p np => ⟨sl, p, l'.map V.int, [V.int z], rfl, rfl, ?_, upd_same, ?_, fun p1 np1 => ⟨_, _, p1, rfl, sUpd (sUpd sm6 np) np1, ?_, pt'⟩⟩⟩
                  · rw [upd_ne (ne_of_none hsl np)]
                    exact hsl
                  · rw [List.length_map, sizeLine_eq]
                    show l'.length + 1 ≤ 16777216
                    omega
                  · rw [upd_same, passT_yes c1 c2 c3, List.map_append, ez]
                    rfl
                by_cases c4 : t.1 ∈ l'
                · rw [decide_eq_true c4]
                  exact iteT ⟨.int t.2, rfl, fin t.2 (if_pos c4).symm⟩
                · rw [decide_eq_false c4]
                  exact iteF ⟨.int t.1, rfl, fin t.1 (if_neg c4).symm⟩
            · rw [decide_eq_false c2]
              refine iteF (iteF ⟨_, _, sl, rfl, sm6, ?_, pt'⟩)
              rw [passT_no fun z => c2 z.2.1]
              exact hsl
          · rw [decide_eq_false c1]
            refine iteF (iteF ⟨_, _, sl, rfl, sm6, ?_, pt'⟩)
            rw [passT_no fun z => c1 z.1]
            exact hsl
        · rintro σ' H6 ⟨y6, y7, sl, rfl, sm6, hsl, pt⟩
          rw [List.take_length] at hsl pt
          exact ⟨_, y6, y7, sl, _, rfl, sm6, hsl, pt, gr.next⟩
      · rintro σ' H5 ⟨y5, y6, y7, sl, l, rfl, sm5, hsl, pt, gr⟩
        have j1 := sm5 _ _ k1
        have j2 := sm5 _ _ k2
        have jx := kx.keep (same_t sm5)
        -- found.append(tuple(sorted(some)))
        refine ⟨.ref o1, rfl, .inl ⟨rfl, _, SqL.of j1⟩, .ref sl, rfl, sl, l, rfl, SqL.of hsl, fun ns u hperm hs nu => .inl ⟨u, _, rfl, SqL.of upd_same, fun tp ntp => ?_⟩⟩
        have hleft : ∀ y ∈ l, y ∈ x :: r := fun y hy => cl x List.mem_cons_self y ((pt.rch y hy).mem hx) (pt.rch y hy)
        have ec := part_comp pt hx hasc hleft gr hperm hs
        subst ec
        have t6 : Same H5 (upd H5 u (.lst ((comp (adj ts) lot x).map V.int))) := same_new nu
        have t7 : Same (upd H5 u (.lst ((comp (adj ts) lot x).map V.int))) (upd (upd H5 u (.lst ((comp (adj ts) lot x).map V.int))) tp (.tup ((comp (adj ts) lot x).map V.int))) := same_new ntp
        have rt : Rp (upd (upd H5 u (.lst ((comp (adj ts) lot x).map V.int))) tp (.tup ((comp (adj ts) lot x).map V.int))) (.ref tp) (eT (comp (adj ts) lot x)) := rp_tupI upd_same
        have t67 := t6.trans t7
        have hsl6 := t67 _ _ hsl
        have j1' := t67 _ _ j1
        have j2' := t67 _ _ j2
        have jx' := jx.keep (same_t t67)
        have sm6 := (sm4.trans sm5).trans t67
        generalize upd (upd H5 u (.lst ((comp (adj ts) lot x).map V.int))) tp (.tup ((comp (adj ts) lot x).map V.int)) = H6 at rt hsl6 j1' j2' jx' sm6
        refine ⟨o1, _, _, rfl, rfl, j1', ?_, ?_⟩
        · rw [jx'.len, List.length_map]
          exact small60 (by omega)
        have stl := sameT_lst (o := .lst (fx ++ [.ref tp])) j1'
        have nso : sl ≠ o1 := fun z => by
          rw [z, j1'] at hsl6
          have e1 := HO.lst.inj (Option.some.inj hsl6)
          have hpos := List.length_pos_of_mem pt.start
          have hh := jx'
          rw [e1] at hh
          cases l with
          | nil => simp at hpos
          | cons y0 l0 =>
            cases fs with
            | nil => cases hh
            | cons f0 fs0 =>
              cases hh with
              | cons hh1 _ =>
                obtain ⟨_, e9, _⟩ := hh1.tupI
                cases e9
        have m1 : (upd H6 o1 (.lst (fx ++ [V.ref tp]))) o1 = some (.lst (fx ++ [V.ref tp])) := upd_same
        have m2 : (upd H6 o1 (.lst (fx ++ [V.ref tp]))) lf = some (.lst ((x :: r).map V.int)) := by
          rw [upd_ne n12]
          exact j2'
        have m3 : (upd H6 o1 (.lst (fx ++ [V.ref tp]))) sl = some (.lst (l.map V.int)) := by
          rw [upd_ne nso]
          exact hsl6
        have mx : RpL (upd H6 o1 (.lst (fx ++ [V.ref tp]))) (fx ++ [V.ref tp]) ((fs ++ [comp (adj ts) lot x]).map eT) := by
          rw [List.map_append]
          exact (jx'.keep stl).append (RpL.one (rt.keep stl))
        have sm7 : Same H (upd H6 o1 (.lst (fx ++ [V.ref tp]))) := sOwn sm6 n1
        generalize upd H6 o1 (.lst (fx ++ [V.ref tp])) = H7 at m1 m2 m3 mx sm7
        have hmem : ∀ y, y ∈ l ↔ y ∈ comp (adj ts) lot x := fun y => hperm.mem_iff.symm
        refine ⟨.ref lf, rfl, lf, rfl, ⟨_, SqL.of m2⟩, fun D nD => lcP (x :: r) Dt.i (fun y => !decide (y ∈ comp (adj ts) lot x)) id Dt.i (walkL (by rw [List.length_map])) nD (fun H8 s8 => SqL.of (s8 _ _ m2)) (by omega) (yAt (rpl_ints _)) ?_ ?_⟩
        · intro y vy H8 R R' hy s8 ry hT hF
          cases ry
          refine ⟨rfl, .int y, rfl, .ref sl, rfl, sl, _, rfl, .inl (SqL.of (s8 _ _ m3)), rfl, flat_ints _, _, rfl, ?_⟩
          show if (!inV (.int y) (l.map V.int)) = true then _ else _
          rw [inV_ints, decide_eq_decide.mpr (hmem y)]
          by_cases c : y ∈ comp (adj ts) lot x
          · rw [decide_eq_true c]
            exact iteF (hF (by rw [decide_eq_true c]; rfl) _ (Same.refl _))
          · rw [decide_eq_false c]
            exact iteT ⟨.int y, rfl, hT (by rw [decide_eq_false c]; rfl) _ _ (Same.refl _) (.i y)⟩
        · intro H8 ys s8 hD rp
          rw [List.map_id, left_next (fun y hy => sub.subset hy)] at rp
          have ey := rp.ints
          subst ey
          have hnx := prt_cons sy hasc sub cl
          refine ⟨(r.filter fun y => !decide (Rch (adj ts) lot x y)).length, ?_, _, _, _, _, D, _, fs ++ [comp (adj ts) lot x], _, rfl, sm7.trans s8, s8 _ _ m1, mx.keep (same_t s8), hD, Same.free sm7 nD, ?_, ?_, closed_next sy (fun y hy => sub.subset hy) cl, ?_, rfl⟩
          · have := List.length_filter_le (fun y => !decide (Rch (adj ts) lot x y)) r
            simp only [List.length_cons]
            omega
          · exact (ne_of_none m1 nD).symm
          · exact List.filter_sublist.trans ((List.sublist_cons_self x r).trans sub)
          · rw [List.append_assoc, ← eqp, hnx]
            rfl
end
end K16
namespace K16
open PySem PySem.Spec PyProof.Rows L2 Classical
section
variable {P : Program} {w : World} {K : PySem.W.Frag} {mg : Str → Option Value} {base : Heap}
/-! ### _law_deep -/
abbrev dLDeep : Stmt := topS 40
abbrev nLDeep : List Str := ["_law_web_here", "_law_lot", "_law_found", "_law_piece", "_law_low", "_law_one"]
theorem scLDeep : FnScope nLDeep ["_law_web_here", "_law_lot"] (defScope dLDeep) := ⟨rfl, rfl, rfl, by decide +kernel, rfl, by decide +kernel, by decide +kernel⟩
def spLDeep : Sp := fun vs H Q _ => ∃ (v x : V) (nums : List Int) (ts : List Tie) (p : Int), vs = [v, x] ∧ Rp H v (eW nums ts) ∧ ts.length ≤ 60 ∧ nums.length ≤ 8 ∧ Rp H x (eT [p]) ∧ p ∈ evb nums.length ∧ Conn (adj ts) nums.length ∧
  ∀ (H' : Hp) (o : Addr) (fx : List V), Same H H' → H o = none → H' o = some (.lst fx) → RpL H' fx ((deepL (adj ts) (oth nums.length p) nums p).map eT) → Q (.ref o) H'
theorem cLDeep (D : Stand K mg "_law_deep" dLDeep) (B : Blt mg) (C1 : Cal P w K mg base 1 "_law_parts" spLParts) (C2 : Cal P w K mg base 1 "_law_rest" spOthers) (C3 : Cal P w K mg base 2 "_law_border" spBorder) : Cal P w K mg base 3 "_law_deep" spLDeep := by
  refine cal_of D scLDeep (fun _ _ _ _ _ _ us hl => match us, hl with | [_, _], _ => rfl) (fun vs H Q E h => ?_) (fun f cdv A outer s H vs Q E hr h => ?_)
  · obtain ⟨v, x, nums, ts, p, rfl, _⟩ := h
    rfl
  · obtain ⟨v, x, nums, ts, p, rfl, hv, hn, h8, hx, hp, hcn, q⟩ := h
    obtain ⟨a, b, c, rfl, ha, hb, xs, hc, hl⟩ := hv.web
    refine ⟨_, pss_cons (ps_set (i := 2) scLDeep.nd rfl (.inl rfl) (pe_lst pa_nil))
      (pss_cons (ps_for PassesOwn.never rfl (pi_list (pcl C1 hr (by decide) (by rfl) (pa_cons (pv 0) (pa_cons (pcl C2 hr (by decide) (by rfl) (pa_cons (pv 0) (pa_cons (pv 1) pa_nil))) pa_nil)))) (pg_name (i := 3) scLDeep.nd rfl (.inl rfl))
        (pss_cons (ps_set (i := 4) scLDeep.nd rfl (.inl rfl) (pe_callB (cr_min rfl) (by rfl) B.min (by decide +kernel) (pa_cons (pe_lc (own := [("_law_one", 5)]) (g := gName 5) rfl scLDeep.nd (pi_tup (pv 3))
            (blkOk_by (N := nLDeep) (sc := defScope dLDeep) (by decide +kernel)) (fun _ _ _ _ _ => pg_name (i := 5) scLDeep.nd rfl (Or.inl rfl)) (fun _ _ _ _ _ => pts_nil)
            (fun _ _ _ _ _ => pe_ix (ixT K) (pe_ix (ixT K) (pv 0) pe_int (fun _ _ => rfl)) (pv 5) (fun _ _ => rfl))) pa_nil)))
        (pss_one (ps_if (pt_cmpR op_lt (pv 4) (pe_callB (cr_min rfl) (by rfl) B.min (by decide +kernel) (pa_cons (pe_lc (own := [("_law_one", 5)]) (g := gName 5) rfl scLDeep.nd (pi_tup (pcl C3 hr (by decide) (by rfl) (pa_cons (pv 0) (pa_cons (pv 3) (pa_cons (pv 1) pa_nil)))))
            (blkOk_by (N := nLDeep) (sc := defScope dLDeep) (by decide +kernel)) (fun _ _ _ _ _ => pg_name (i := 5) scLDeep.nd rfl (Or.inl rfl)) (fun _ _ _ _ _ => pts_nil)
            (fun _ _ _ _ _ => pe_ix (ixT K) (pe_ix (ixT K) (pv 0) pe_int (fun _ _ => rfl)) (pv 5) (fun _ _ => rfl))) pa_nil)) (nomark _))
          (pss_one (ps_expr (pe_bm PySem.F.plainAttrs_list PySem.F.slot_list_append PySem.F.type_list_append mt_append (pv 2) (pa_cons (pv 3) pa_nil)))) pss_nil))))
      (pss_one (ps_ret (pv 2)))), ?_⟩
    refine ⟨Nat.zero_le _, fun o no => ?_⟩
    have s1 : Same H (upd H o (.lst [])) := same_new no
    refine ⟨.ref a, rfl, .ref a, rfl, x, rfl, .ref a, x, nums, ts, p, rfl, hv.keep (same_t s1), h8, hx.keep (same_t s1), fun H2 r2 s2 hr2 => ?_⟩
    have sm2 := s1.trans s2
    refine ⟨.ref a, r2, nums, ts, oth nums.length p, rfl, hv.keep (same_t sm2), hn, hr2, oth_asc, Nat.le_trans oth_len h8, fun H3 o3 fx s3 no3 ho3 hfx => ?_⟩
    have sm3 := sm2.trans s3
    have ho := s3 _ _ (s2 _ _ (upd_same (H := H) (a := o) (o := .lst [])))
    have n3 : o3 ≠ o := (ne_of_none (s2 _ _ (upd_same (H := H) (a := o) (o := .lst []))) no3).symm
    have hpl : (parts (adj ts) (oth nums.length p)).length ≤ 8 := Nat.le_trans parts_len (Nat.le_trans oth_len h8)
    refine ⟨o3, rfl, ⟨_, SqL.of ho3⟩, for_it (walkL (m := (parts (adj ts) (oth nums.length p)).length) (by rw [hfx.len, List.length_map])) (fun i σ H' => ∃ y3 y4 gx, σ = [some (.ref a), some x, some (.ref o), y3, y4, none] ∧ Same H H' ∧ H' o3 = some (.lst fx) ∧ RpL H' fx ((parts (adj ts) (oth nums.length p)).map eT) ∧
        H' o = some (.lst gx) ∧ RpL H' gx ((((parts (adj ts) (oth nums.length p)).take i).filter (isDeep nums p)).map eT))
      ⟨none, none, [], rfl, sm3, ho3, hfx, ho, .nil⟩ (fun i σ H' _ ⟨_, _, _, _, _, h, _⟩ => SqL.of h) ?_ ?_⟩
    · rintro i y σ H4 H4' hi ⟨y3, y4, gx, rfl, sm4, h3, hfx4, ho4, hgx⟩ ⟨rfl, hy⟩
      obtain ⟨d, hd, ry⟩ := hfx4.get' hy
      rw [List.getElem?_map, List.getElem?_eq_getElem hi] at hd
      have hd' := Option.some.inj hd
      subst hd'
      have hm : (parts (adj ts) (oth nums.length p))[i] ∈ parts (adj ts) (oth nums.length p) := List.getElem_mem hi
      have pt := part_of hcn hp hm
      have tk : (parts (adj ts) (oth nums.length p)).take (i + 1) = (parts (adj ts) (oth nums.length p)).take i ++ [(parts (adj ts) (oth nums.length p))[i]] := by
        rw [List.take_add_one, List.getElem?_eq_getElem hi]
        rfl
      have hgl : gx.length ≤ 8 := by
        rw [hgx.len, List.length_map]
        have e1 := List.length_filter_le (isDeep nums p) ((parts (adj ts) (oth nums.length p)).take i)
        have e2 : ((parts (adj ts) (oth nums.length p)).take i).length ≤ (parts (adj ts) (oth nums.length p)).length := by
          rw [List.length_take]
          omega
        omega
      revert pt tk ry
      generalize (parts (adj ts) (oth nums.length p))[i] = part
      intro ry pt tk
      obtain ⟨e, rfl, he⟩ := ry.tupI
      -- low
      refine ⟨.ref e, rfl, e, rfl, ⟨_, SqT.of he⟩, fun D nD => lcP part Dt.i (fun _ => true) (numOf nums) Dt.i (walkT (by rw [List.length_map])) nD (fun H5 s5 => SqT.of (s5 _ _ he)) (by have := pt.len; omega) (yAt (rpl_ints _)) ?_ ?_⟩
      · intro z vz H5 R R' hz s5 rz hT hF
        cases rz
        have sm5 := sm4.trans s5
        refine ⟨rfl, (iteT ?_ : if true = true then _ else R' H5)⟩
        exact ⟨.ref a, rfl, a, _, 0, .ref b, rfl, rfl, SqT.of (sm5 _ _ ha), atI_nat (j := 0) rfl, .int z, rfl, b, _, z, _, rfl, rfl, SqT.of (sm5 _ _ hb), numAt (pt.sub z hz), hT rfl _ _ (Same.refl _) (.i _)⟩
      · intro H5 ys s5 hD rp
        have ey := rp.ints
        subst ey
        have ez : (part.filter fun _ => true) = part := List.filter_eq_self.mpr fun _ _ => rfl
        rw [ez] at hD
        refine ⟨D, _, rfl, SqL.of hD, by rw [List.length_map]; exact pt.pos, fun m hm1 hm2 => ?_⟩
        have q1 : ∃ z ∈ part, numOf nums z = m := by
          obtain ⟨z, hz, e⟩ := List.mem_map.mp hm1
          exact ⟨z, hz, e⟩
        have q2 : ∀ z ∈ part, m ≤ numOf nums z := fun z hz => hm2 _ (List.mem_map.mpr ⟨z, hz, rfl⟩)
        have sm5 := sm4.trans s5
        -- if low < min(..)
        refine ⟨.int m, rfl, .ref a, rfl, .ref e, rfl, x, rfl, .ref a, .ref e, x, nums, ts, part, p, rfl, hv.keep (same_t sm5), hn, ry.keep (same_t s5), hx.keep (same_t sm5), pt.nb, fun H6 r6 s6 hr6 => ?_⟩
        obtain ⟨e6, rfl, he6⟩ := hr6.tupI
        have sm6 := sm5.trans s6
        refine ⟨e6, rfl, ⟨_, SqT.of he6⟩, fun D2 nD2 => lcP [p] Dt.i (fun _ => true) (numOf nums) Dt.i (walkT rfl) nD2 (fun H7 s7 => SqT.of (s7 _ _ he6)) (by show 1 ≤ 5000; decide) (yAt (rpl_ints _)) ?_ ?_⟩
        · intro z vz H7 R R' hz s7 rz hT hF
          cases rz
          have sm7 := sm6.trans s7
          have hzp : z ∈ evb nums.length := by rw [List.mem_singleton.mp hz]; exact hp
          refine ⟨rfl, (iteT ?_ : if true = true then _ else R' H7)⟩
          exact ⟨.ref a, rfl, a, _, 0, .ref b, rfl, rfl, SqT.of (sm7 _ _ ha), atI_nat (j := 0) rfl, .int z, rfl, b, _, z, _, rfl, rfl, SqT.of (sm7 _ _ hb), numAt hzp, hT rfl _ _ (Same.refl _) (.i _)⟩
        · intro H7 zs s7 hD2 rz
          have ey := rz.ints
          subst ey
          refine ⟨D2, [numOf nums p], rfl, SqL.of hD2, by show 0 < 1; decide, fun m' hm3 _ => ⟨m, m', rfl, rfl, _, rfl, ?_⟩⟩
          have em : m' = numOf nums p := List.mem_singleton.mp hm3
          have ed := deep_dec (p := p) q1 q2 em
          show if decide (m < m') = true then _ else _
          rw [ed]
          have s47 := s5.trans (s6.trans s7)
          have sm7 := sm4.trans s47
          have ho7 := s47 _ _ ho4
          have hg7 := hgx.keep (same_t s47)
          have h37 := s47 _ _ h3
          have hf7 := hfx4.keep (same_t s47)
          have rx7 := ry.keep (same_t s47)
          cases hb : isDeep nums p part with
          | true =>
            refine iteT ⟨.ref o, rfl, .inl ⟨rfl, _, SqL.of ho7⟩, .ref e, rfl, o, _, _, rfl, rfl, ho7, small60 (by omega), ?_⟩
            have stl := sameT_lst (o := .lst (gx ++ [.ref e])) ho7
            refine ⟨_, _, gx ++ [.ref e], rfl, sOwn sm7 no, ?_, hf7.keep stl, upd_same, ?_⟩
            · rw [upd_ne n3]
              exact h37
            · rw [tk, List.filter_append, List.map_append, List.filter_cons_of_pos hb]
              exact (hg7.keep stl).append (RpL.one (rx7.keep stl))
          | false =>
            refine iteF ⟨_, _, gx, rfl, sm7, h37, hf7, ho7, ?_⟩
            rw [tk, List.filter_append, List.filter_cons_of_neg (by rw [hb]; exact Bool.false_ne_true), List.filter_nil, List.append_nil]
            exact hg7
    · rintro σ H4 ⟨y3, y4, gx, rfl, sm4, h3, hfx4, ho4, hgx⟩
      rw [List.take_length] at hgx
      exact ⟨.ref o, rfl, q H4 o gx sm4 no ho4 hgx⟩
end
end K16
namespace K16
open PySem PySem.Spec PyProof.Rows L2 Classical
/-- the script's list is not the row, or stands in the written part -/
def NR (K : PySem.W.Frag) (a r : Addr) (xs : List V) : Prop :=
  a ≠ r ∨ ∃ (o : Obj) (its : Array Value) (n : Nat), K.lookup a = some o ∧ o.cls = .type "list" ∧ o.dict = none ∧ o.data = .seq its n ∧ its.size ≤ sizeLine ∧ Vals xs its.toList
theorem sqL_upd {K : PySem.W.Frag} {H : Hp} {a r : Addr} {xs : List V} {o : HO} (h : SqL K H a xs) (n : NR K a r xs) : SqL K (upd H r o) a xs := by
  rcases n with n | n
  · rcases h with (h | ⟨u, h⟩) | h
    · exact .inl (.inl (by rw [upd_ne n]; exact h))
    · exact .inl (.inr ⟨u, by rw [upd_ne n]; exact h⟩)
    · exact .inr h
  · exact .inr n
theorem nr_new {K : PySem.W.Frag} {H : Hp} {a r : Addr} {xs : List V} (h : SqL K H a xs) (n : H r = none) : NR K a r xs := by
  rcases h with (h | ⟨u, h⟩) | h
  · exact .inl (ne_of_none h n)
  · exact .inl (ne_of_none h n)
  · exact .inr h
/-- ints and tuples, at most so deep -/
def IT : Nat → Dt → Prop
  | _, .i _ => True
  | _, .non => False
  | 0, .t _ => False
  | k + 1, .t xs => xs.length ≤ 5000 ∧ ∀ x ∈ xs, IT k x
section
variable {P : Program} {w : World} {K : PySem.W.Frag} {mg : Str → Option Value} {base : Heap}
/-! ### _law_taken -/
abbrev dTaken : Stmt := topS 33
abbrev nTaken : List Str := ["_law_row", "_law_many", "_law_found", "_law_cell"]
theorem scTaken : FnScope nTaken ["_law_row", "_law_many"] (defScope dTaken) := ⟨rfl, rfl, rfl, by decide +kernel, rfl, by decide +kernel, by decide +kernel⟩
/-- what stands in the row -/
abbrev rowV (a : Addr) (i m c : Int) : List V := [.ref a, .int i, .int m, .int c]
def spTaken (K : PySem.W.Frag) : Sp := fun vs H Q _ => ∃ (r a : Addr) (ns : List Int) (i m c many : Int), vs = [.ref r, .int many] ∧ H r = some (.lst (rowV a i m c)) ∧ SqL K H a (ns.map V.int) ∧ NR K a r (ns.map V.int) ∧ 0 ≤ i ∧ 0 ≤ m ∧ m < 2147483648 ∧ 1 ≤ many ∧ many ≤ 1000 ∧
  ∀ i' m' c' x : Int, 0 ≤ i' → 0 ≤ m' → m' < 2147483648 → 0 ≤ x → x < many → Q (.int x) (upd H r (.lst (rowV a i' m' c')))
theorem cTaken (D : Stand K mg "_law_taken" dTaken) (B : Blt mg) : Cal P w K mg base 1 "_law_taken" (spTaken K) := by
  refine cal_of D scTaken (fun _ _ _ _ _ _ us hl => match us, hl with | [_, _], _ => rfl) (fun vs H Q E h => ?_) (fun f cdv A outer s H vs Q E hr h => ?_)
  · obtain ⟨r, a, ns, i, m, c, many, rfl, _⟩ := h
    rfl
  · obtain ⟨r, a, ns, i, m, c, many, rfl, hrow, hS, nar, hi, hm0, hm1, hn1, hn2, q⟩ := h
    refine ⟨_, pss_cons (ps_if (pt_cmpR op_gt (pe_ix ix_list (pv 0) pe_int (fun _ _ => rfl)) pe_int (nomark _))
        (pss_cons (ps_set (i := 2) scTaken.nd rfl (.inl rfl) (pe_op op_mod (pe_callTy call_int1 (by rfl) B.int (by decide +kernel) (pa_cons (pe_ix ix_list (pv 0) pe_int (fun _ _ => rfl)) pa_nil)) (pv 1)))
        (pss_cons (ps_asg (pe_op op_fdivN (pe_ix ix_list (pv 0) pe_int (fun _ _ => rfl)) (pv 1)) (pg_sub (pv 0) pe_int set_list))
        (pss_one (ps_ret (pv 2))))) pss_nil)
      (pss_cons (ps_asg (pe_op op_add (pe_ix ix_list (pv 0) pe_int (fun _ _ => rfl)) pe_int) (pg_sub (pv 0) pe_int set_list))
      (pss_cons (ps_if (pt_cmpR op_gt (pe_ix ix_list (pv 0) pe_int (fun _ _ => rfl)) (pe_callB call_len_seq (by rfl) B.len PySem.boot_len (pa_cons (pe_ix ix_list (pv 0) pe_int (fun _ _ => rfl)) pa_nil)) (nomark _))
        (pss_cons (ps_asg (pe_op op_mod (pe_callTy call_int1 (by rfl) B.int (by decide +kernel) (pa_cons (pe_op op_add (pe_op op_mul (pe_ix ix_list (pv 0) pe_int (fun _ _ => rfl)) pe_int) pe_int) pa_nil)) pe_int) (pg_sub (pv 0) pe_int set_list))
        (pss_one (ps_ret (pe_op op_mod (pe_callTy call_int1 (by rfl) B.int (by decide +kernel) (pa_cons (pe_op op_fdivN (pe_ix ix_list (pv 0) pe_int (fun _ _ => rfl)) pe_int) pa_nil)) (pv 1))))) pss_nil)
      (pss_cons (ps_set (i := 3) scTaken.nd rfl (.inl rfl) (pe_ix ix_list (pe_ix ix_list (pv 0) pe_int (fun _ _ => rfl)) (pe_op op_sub (pe_ix ix_list (pv 0) pe_int (fun _ _ => rfl)) pe_int) (fun _ _ => rfl)))
      (pss_cons (ps_asg (pe_op op_mod (pe_callTy call_int1 (by rfl) B.int (by decide +kernel) (pa_cons (pe_op op_add (pe_op op_add (pe_op op_mul (pe_ix ix_list (pv 0) pe_int (fun _ _ => rfl)) pe_int) (pv 3)) pe_int) pa_nil)) pe_int) (pg_sub (pv 0) pe_int set_list))
      (pss_cons (ps_if (pt_cmpR op_ge (pv 3) (pe_op op_pow pe_int pe_int) (nomark _))
        (pss_one (ps_asg (pe_op op_fdivN (pv 3) (pv 1)) (pg_sub (pv 0) pe_int set_list))) pss_nil)
      (pss_one (ps_ret (pe_op op_mod (pe_callTy call_int1 (by rfl) B.int (by decide +kernel) (pa_cons (pv 3) pa_nil)) (pv 1))))))))), ?_⟩
    have dv : many ≠ 0 ∧ many.natAbs < 1073741824 := ⟨by omega, by omega⟩
    -- if row[3] > 0
    refine ⟨.ref r, rfl, r, _, 3, .int c, rfl, rfl, SqL.of hrow, atI_nat (j := 3) rfl, c, 0, rfl, rfl, _, rfl, ?_⟩
    refine ite2 (fun _ => ?_) (fun _ => ?_)
    · refine ⟨.ref r, rfl, r, _, 3, .int c, rfl, rfl, SqL.of hrow, atI_nat (j := 3) rfl, .inl ⟨c, rfl, .int many, rfl, c, many, rfl, rfl, by show 0 < many; omega, ?_⟩⟩
      refine ⟨.ref r, rfl, r, _, 3, .int c, rfl, rfl, SqL.of hrow, atI_nat (j := 3) rfl, .int many, rfl, c, many, rfl, rfl, dv, .ref r, rfl, r, _, 3, 3, rfl, rfl, hrow, rfl, ?_⟩
      exact ⟨.int (c % many), rfl, q i m (c.fdiv many) (c % many) hi hm0 hm1 (Int.emod_nonneg _ dv.1) (Int.emod_lt_of_pos _ (by omega))⟩
    · -- row[1] = row[1] + 1
      refine ⟨.ref r, rfl, r, _, 1, .int i, rfl, rfl, SqL.of hrow, atI_nat (j := 1) rfl, i, 1, rfl, rfl, .ref r, rfl, r, _, 1, 1, rfl, rfl, hrow, rfl, ?_⟩
      have hrow1 : (upd H r (.lst ((rowV a i m c).set 1 (.int (i + 1))))) r = some (.lst (rowV a (i + 1) m c)) := upd_same
      have hS1 : SqL K (upd H r (.lst ((rowV a i m c).set 1 (.int (i + 1))))) a (ns.map V.int) := sqL_upd hS nar
      have hu1 : ∀ o, upd (upd H r (.lst ((rowV a i m c).set 1 (.int (i + 1))))) r o = upd H r o := fun o => upd_upd
      generalize upd H r (.lst ((rowV a i m c).set 1 (.int (i + 1)))) = H1 at hrow1 hS1 hu1
      refine ⟨.ref r, rfl, r, _, 1, .int (i + 1), rfl, rfl, SqL.of hrow1, atI_nat (j := 1) rfl, .ref r, rfl, r, _, 0, .ref a, rfl, rfl, SqL.of hrow1, atI_nat (j := 0) rfl, a, _, rfl, .inl hS1, i + 1, _, rfl, rfl, _, rfl, ?_⟩
      have hml : (-(2 ^ 64) : Int) < m ∧ m < 2 ^ 64 := ⟨by omega, by omega⟩
      refine ite2 (fun _ => ?_) (fun hlen => ?_)
      · refine ⟨.ref r, rfl, r, _, 2, .int m, rfl, rfl, SqL.of hrow1, atI_nat (j := 2) rfl, m, 48271, rfl, rfl, .inl hml, m * 48271, 11, rfl, rfl, .inl ⟨m * 48271 + 11, rfl, m * 48271 + 11, 2147483647, rfl, rfl, by show (0 : Int) < 2147483647; decide, .ref r, rfl, r, _, 2, 2, rfl, rfl, hrow1, rfl, ?_⟩⟩
        have b1 := Int.emod_nonneg (m * 48271 + 11) (show (2147483647 : Int) ≠ 0 by decide)
        have b2 := Int.emod_lt_of_pos (m * 48271 + 11) (show (0 : Int) < 2147483647 by decide)
        have hrow2 : (upd H1 r (.lst ((rowV a (i + 1) m c).set 2 (.int ((m * 48271 + 11) % 2147483647))))) r = some (.lst (rowV a (i + 1) ((m * 48271 + 11) % 2147483647) c)) := upd_same
        refine ⟨.ref r, rfl, r, _, 2, .int ((m * 48271 + 11) % 2147483647), rfl, rfl, SqL.of hrow2, atI_nat (j := 2) rfl, ((m * 48271 + 11) % 2147483647), 7, rfl, rfl, ⟨by decide, by decide⟩, .inl ⟨((m * 48271 + 11) % 2147483647).fdiv 7, rfl, .int many, rfl, ((m * 48271 + 11) % 2147483647).fdiv 7, many, rfl, rfl, by show 0 < many; omega, ?_⟩⟩
        rw [hu1]
        exact q (i + 1) ((m * 48271 + 11) % 2147483647) c _ (by omega) b1 (by omega) (Int.emod_nonneg _ dv.1) (Int.emod_lt_of_pos _ (by omega))
      · rw [decide_eq_true_eq] at hlen
        rw [List.length_map] at hlen
        have hil : i.toNat < ns.length := by omega
        have gx : atI (ns.map V.int) (i + 1 - 1) = some (.int ns[i.toNat]) := by
          have ei : i + 1 - 1 = ((i.toNat : Nat) : Int) := by omega
          rw [ei]
          refine atI_nat ?_
          rw [List.getElem?_map, List.getElem?_eq_getElem hil]
          rfl
        generalize ns[i.toNat] = cell at gx
        refine ⟨.ref r, rfl, r, _, 0, .ref a, rfl, rfl, SqL.of hrow1, atI_nat (j := 0) rfl, .ref r, rfl, r, _, 1, .int (i + 1), rfl, rfl, SqL.of hrow1, atI_nat (j := 1) rfl, i + 1, 1, rfl, rfl, a, _, i + 1 - 1, .int cell, rfl, rfl, hS1, gx, ?_⟩
        refine ⟨.ref r, rfl, r, _, 2, .int m, rfl, rfl, SqL.of hrow1, atI_nat (j := 2) rfl, m, 48271, rfl, rfl, .inl hml, .int cell, rfl, m * 48271, cell, rfl, rfl, m * 48271 + cell, 11, rfl, rfl, .inl ⟨m * 48271 + cell + 11, rfl, m * 48271 + cell + 11, 2147483647, rfl, rfl, by show (0 : Int) < 2147483647; decide, .ref r, rfl, r, _, 2, 2, rfl, rfl, hrow1, rfl, ?_⟩⟩
        have b1 := Int.emod_nonneg (m * 48271 + cell + 11) (show (2147483647 : Int) ≠ 0 by decide)
        have b2 := Int.emod_lt_of_pos (m * 48271 + cell + 11) (show (0 : Int) < 2147483647 by decide)
        have hrow2 : (upd H1 r (.lst ((rowV a (i + 1) m c).set 2 (.int ((m * 48271 + cell + 11) % 2147483647))))) r = some (.lst (rowV a (i + 1) ((m * 48271 + cell + 11) % 2147483647) c)) := upd_same
        refine ⟨.int cell, rfl, 10, 18, rfl, rfl, ⟨by decide, by decide, by decide⟩, cell, _, rfl, rfl, _, rfl, ?_⟩
        refine ite2 (fun _ => ?_) (fun _ => ?_)
        · refine ⟨.int cell, rfl, .int many, rfl, cell, many, rfl, rfl, dv, .ref r, rfl, r, _, 3, 3, rfl, rfl, hrow2, rfl, .int cell, rfl, .inl ⟨cell, rfl, .int many, rfl, cell, many, rfl, rfl, by show 0 < many; omega, ?_⟩⟩
          rw [upd_upd, hu1]
          exact q (i + 1) ((m * 48271 + cell + 11) % 2147483647) (cell.fdiv many) _ (by omega) b1 (by omega) (Int.emod_nonneg _ dv.1) (Int.emod_lt_of_pos _ (by omega))
        · refine ⟨.int cell, rfl, .inl ⟨cell, rfl, .int many, rfl, cell, many, rfl, rfl, by show 0 < many; omega, ?_⟩⟩
          rw [hu1]
          exact q (i + 1) ((m * 48271 + cell + 11) % 2147483647) c _ (by omega) b1 (by omega) (Int.emod_nonneg _ dv.1) (Int.emod_lt_of_pos _ (by omega))
end
end K16
namespace K16
open PySem PySem.Spec PyProof.Rows L2 Classical
theorem ixS (K : PySem.W.Frag) {X : Cx} (h : X.K = K := by rfl) : IxR X (rIx K) := by
  subst h
  exact ix_seq
theorem kit2 {K : PySem.W.Frag} {T : String} {b1 b2 r : Bool} (h1 : kitB T "tuple" = some b1) (h2 : kitB T "list" = some b2) (e : (b1 || b2) = r) : PySem.W.kitAny K (.type T) [.type "tuple", .type "list"] = some r := by
  refine kitAny_cons (kit_ty h1) (fun z => kitAny_cons (kit_ty h2) (fun z2 => ?_) fun z2 => ?_) fun z => ?_
  · subst z
    subst z2
    rw [← e]
    rfl
  · subst z
    subst z2
    exact e.symm
  · subst z
    rw [← e]
    rfl
theorem clsTL : Paired ClsV [V.ty "tuple", V.ty "list"] [Value.type "tuple", Value.type "list"] := .cons (.ty _) (.cons (.ty _) .nil)
/-- a tuple or a list of these -/
def SeqOf (H : Hp) (l : Bool) (v : V) (xs : List V) : Prop := ∃ a, v = .ref a ∧ (if l = true then H a = some (.lst xs) else H a = some (.tup xs))
theorem SeqOf.keep {H H' : Hp} {l : Bool} {v : V} {xs : List V} (h : SeqOf H l v xs) (s : Same H H') : SeqOf H' l v xs := by
  obtain ⟨a, e, h⟩ := h
  refine ⟨a, e, ?_⟩
  cases l with
  | true => exact iteT (s _ _ (by simpa using h))
  | false => exact iteF (s _ _ (by simpa using h))
theorem SeqOf.ty {K : PySem.W.Frag} {H : Hp} {l : Bool} {v : V} {xs : List V} (h : SeqOf H l v xs) : TyX K H v (.type (if l = true then "list" else "tuple")) := by
  obtain ⟨a, rfl, h⟩ := h
  cases l with
  | true => exact .base (.lst (by simpa using h))
  | false => exact .base (.tup (by simpa using h))
theorem SeqOf.sq {K : PySem.W.Frag} {H : Hp} {l : Bool} {a : Addr} {xs : List V} (h : SeqOf H l (.ref a) xs) : SqL K H a xs ∨ SqT K H a xs := by
  obtain ⟨b, e, h⟩ := h
  cases e
  cases l with
  | true => exact .inl (SqL.of (by simpa using h))
  | false => exact .inr (SqT.of (by simpa using h))
theorem SeqOf.ix {K : PySem.W.Frag} {H : Hp} {l : Bool} {v x : V} {xs : List V} {i : Int} (h : SeqOf H l v xs) {Q : VK} (hx : atI xs i = some x) (q : Q x H) : rIx K v (.int i) H Q := by
  obtain ⟨a, rfl, h⟩ := h
  cases l with
  | true => exact .inl ⟨a, xs, i, x, rfl, rfl, SqL.of (by simpa using h), hx, q⟩
  | false => exact .inr (.inl ⟨a, xs, i, x, rfl, rfl, SqT.of (by simpa using h), hx, q⟩)
section
variable {P : Program} {w : World} {K : PySem.W.Frag} {mg : Str → Option Value} {base : Heap}
/-! ### _law_alike -/
abbrev dAlike : Stmt := topS 34
abbrev nAlike : List Str := ["_law_found", "_law_due", "_law_k"]
theorem scAlike : FnScope nAlike ["_law_found", "_law_due"] (defScope dAlike) := ⟨rfl, rfl, rfl, by decide +kernel, rfl, by decide +kernel, by decide +kernel⟩
/-- two of the same data: ints and tuples at most n deep; or two lists of such, n - 1 deep -/
def spAlike (n : Nat) : Sp := fun vs H Q _ => ∃ x y : V, vs = [x, y] ∧ ((∃ d, IT n d ∧ Rp H x d ∧ Rp H y d) ∨ ∃ xs ys ds, 1 ≤ n ∧ SeqOf H true x xs ∧ SeqOf H true y ys ∧ RpL H xs ds ∧ RpL H ys ds ∧ ds.length ≤ 5000 ∧ ∀ d ∈ ds, IT (n - 1) d) ∧
  ∀ H', Same H H' → Q (.bl true) H'
/-- two ints, from the second test on -/
theorem cAlike0 (D : Stand K mg "_law_alike" dAlike) (B : Blt mg) : Cal P w K mg base 1 "_law_alike" (spAlike 0) := by
  refine cal_of D scAlike (fun _ _ _ _ _ _ us hl => match us, hl with | [_, _], _ => rfl) (fun vs H Q E h => ?_) (fun f cdv A outer s H vs Q E hr h => ?_)
  · obtain ⟨x, y, rfl, _⟩ := h
    rfl
  · obtain ⟨x, y, rfl, hd, q⟩ := h
    obtain ⟨n, rfl, rfl⟩ : ∃ n : Int, x = .int n ∧ y = .int n := by
      rcases hd with ⟨d, hd, hx, hy⟩ | ⟨xs, ys, ds, h1, _⟩
      · cases d with
        | i n => exact ⟨n, hx.int, hy.int⟩
        | non => cases hd
        | t zs => cases hd
      · omega
    refine ⟨_, pss_cons (ps_if (pt_val (pe_callB call_isiT (by rfl) B.isi (by decide +kernel) (pa_cons (pv 1) (pa_cons (pe_tup (pa_cons (pe_bltn (by rfl) B.tuple (by decide +kernel) (v := .ty "tuple") rfl) (pa_cons (pe_bltn (by rfl) B.list (by decide +kernel) (v := .ty "list") rfl) pa_nil))) pa_nil))))
        (pss_cons ps_never (pss_cons ps_never (pss_one ps_never))) pss_nil)
      (pss_cons (ps_if (PW.pt (pw_or (pt_cmpR op_isN (pv 1) pe_non (nomark _)) (pw_or1 (pt_val (pe_callB call_isi (by rfl) B.isi (by decide +kernel) (pa_cons (pv 1) (pa_cons (pe_bltn (by rfl) B.str (by decide +kernel) (v := .ty "str") rfl) pa_nil))))))) (pss_one ps_never) pss_nil)
      (pss_one (ps_ret (pe_and (pe_callB call_isi (by rfl) B.isi (by decide +kernel) (pa_cons (pv 0) (pa_cons (pe_bltn (by rfl) B.int (by decide +kernel) (v := .ty "int") rfl) pa_nil)))
        (pe_and (pe_cmpR op_eq (pe_callB call_isi (by rfl) B.isi (by decide +kernel) (pa_cons (pv 0) (pa_cons (pe_bltn (by rfl) B.bool (by decide +kernel) (v := .ty "bool") rfl) pa_nil))) (pe_callB call_isi (by rfl) B.isi (by decide +kernel) (pa_cons (pv 1) (pa_cons (pe_bltn (by rfl) B.bool (by decide +kernel) (v := .ty "bool") rfl) pa_nil))) (nomark _))
        (pe_one (pe_cmpR op_eq (pv 0) (pv 1) (nomark _)))))))), ?_⟩
    refine ⟨.int n, rfl, by show 2 ≤ sizeLine; decide, fun tp ntp => ⟨.int n, tp, _, .type "int", _, false, rfl, upd_same, clsTL, .base (.int n), kit2 (b1 := false) (b2 := false) (by decide +kernel) (by decide +kernel) rfl, false, rfl, iteF ?_⟩⟩
    refine ⟨.int n, rfl, rfl, false, rfl, iteF ?_⟩
    refine ⟨.int n, rfl, .int n, .ty "str", .type "int", .type "str", false, rfl, .ty "str", .base (.int n), kit_ty (by decide +kernel), false, rfl, iteF ?_⟩
    refine ⟨.int n, rfl, .int n, .ty "int", .type "int", .type "int", true, rfl, .ty "int", .base (.int n), kit_ty (by decide +kernel), true, rfl, iteT ?_⟩
    refine ⟨.int n, rfl, .int n, .ty "bool", .type "int", .type "bool", false, rfl, .ty "bool", .base (.int n), kit_ty (by decide +kernel), .int n, rfl, .int n, .ty "bool", .type "int", .type "bool", false, rfl, .ty "bool", .base (.int n), kit_ty (by decide +kernel), rfl, true, rfl, iteT ?_⟩
    refine ⟨.int n, rfl, .int n, rfl, rfl, ?_⟩
    show Q (.bl (decide (V.int n = V.int n))) _
    rw [decide_eq_true rfl]
    exact q _ (same_new ntp)
theorem cAlikeS {n : Nat} (D : Stand K mg "_law_alike" dAlike) (B : Blt mg) (C0 : Cal P w K mg base (n + 1) "_law_alike" (spAlike n)) : Cal P w K mg base (n + 2) "_law_alike" (spAlike (n + 1)) := by
  refine cal_of D scAlike (fun _ _ _ _ _ _ us hl => match us, hl with | [_, _], _ => rfl) (fun vs H Q E h => ?_) (fun f cdv A outer s H vs Q E hr h => ?_)
  · obtain ⟨x, y, rfl, _⟩ := h
    rfl
  · obtain ⟨x, y, rfl, hd, q⟩ := h
    refine ⟨_, pss_cons (ps_if (pt_val (pe_callB call_isiT (by rfl) B.isi (by decide +kernel) (pa_cons (pv 1) (pa_cons (pe_tup (pa_cons (pe_bltn (by rfl) B.tuple (by decide +kernel) (v := .ty "tuple") rfl) (pa_cons (pe_bltn (by rfl) B.list (by decide +kernel) (v := .ty "list") rfl) pa_nil))) pa_nil))))
        (pss_cons (ps_if (PW.pt (pw_or (pt_not (pt_val (pe_callB call_isiT (by rfl) B.isi (by decide +kernel) (pa_cons (pv 0) (pa_cons (pe_tup (pa_cons (pe_bltn (by rfl) B.tuple (by decide +kernel) (v := .ty "tuple") rfl) (pa_cons (pe_bltn (by rfl) B.list (by decide +kernel) (v := .ty "list") rfl) pa_nil))) pa_nil)))))
            (pw_or1 (pt_cmpR op_ne (pe_callB call_isi (by rfl) B.isi (by decide +kernel) (pa_cons (pv 0) (pa_cons (pe_bltn (by rfl) B.list (by decide +kernel) (v := .ty "list") rfl) pa_nil))) (pe_callB call_isi (by rfl) B.isi (by decide +kernel) (pa_cons (pv 1) (pa_cons (pe_bltn (by rfl) B.list (by decide +kernel) (v := .ty "list") rfl) pa_nil))) (nomark _))))) (pss_one ps_never) pss_nil)
        (pss_cons (ps_if (pt_cmpR op_ne (pe_callB (lenS K) (by rfl) B.len PySem.boot_len (pa_cons (pv 0) pa_nil)) (pe_callB (lenS K) (by rfl) B.len PySem.boot_len (pa_cons (pv 1) pa_nil)) (nomark _)) (pss_one ps_never) pss_nil)
        (pss_one (ps_ret (pe_cmpR (op_eqD hr.units) (pe_lc (own := [("_law_k", 2)]) (g := gName 2) rfl scAlike.nd (pi_range1 (by rfl) B.range (pa_cons (pe_callB (lenS K) (by rfl) B.len PySem.boot_len (pa_cons (pv 1) pa_nil)) pa_nil))
          (blkOk_by (N := nAlike) (sc := defScope dAlike) (by decide +kernel)) (fun _ _ _ _ _ => pg_name (i := 2) scAlike.nd rfl (Or.inl rfl))
          (fun _ _ _ _ _ => pts_one (pt_not (pt_val (pcl C0 hr (Nat.le_refl _) (by rfl) (pa_cons (pe_ix (ixS K) (pv 0) (pv 2) (fun _ _ => rfl)) (pa_cons (pe_ix (ixS K) (pv 1) (pv 2) (fun _ _ => rfl)) pa_nil)))))) (fun _ _ _ _ _ => pv 2)) (pe_lst pa_nil) (nomark _)))))) pss_nil)
      (pss_cons (ps_if (PW.pt (pw_or (pt_cmpR op_isN (pv 1) pe_non (nomark _)) (pw_or1 (pt_val (pe_callB call_isi (by rfl) B.isi (by decide +kernel) (pa_cons (pv 1) (pa_cons (pe_bltn (by rfl) B.str (by decide +kernel) (v := .ty "str") rfl) pa_nil))))))) (pss_one ps_never) pss_nil)
      (pss_one (ps_ret (pe_and (pe_callB call_isi (by rfl) B.isi (by decide +kernel) (pa_cons (pv 0) (pa_cons (pe_bltn (by rfl) B.int (by decide +kernel) (v := .ty "int") rfl) pa_nil)))
        (pe_and (pe_cmpR op_eq (pe_callB call_isi (by rfl) B.isi (by decide +kernel) (pa_cons (pv 0) (pa_cons (pe_bltn (by rfl) B.bool (by decide +kernel) (v := .ty "bool") rfl) pa_nil))) (pe_callB call_isi (by rfl) B.isi (by decide +kernel) (pa_cons (pv 1) (pa_cons (pe_bltn (by rfl) B.bool (by decide +kernel) (v := .ty "bool") rfl) pa_nil))) (nomark _))
        (pe_one (pe_cmpR op_eq (pv 0) (pv 1) (nomark _)))))))), ?_⟩
    have cases3 : (∃ n : Int, x = .int n ∧ y = .int n) ∨ ∃ (l : Bool) (xs ys : List V) (ds : List Dt), SeqOf H l x xs ∧ SeqOf H l y ys ∧ RpL H xs ds ∧ RpL H ys ds ∧ ds.length ≤ 5000 ∧ ∀ d ∈ ds, IT n d := by
      rcases hd with ⟨d, hd, hx, hy⟩ | ⟨xs, ys, ds, h1, h2, h3, h4, h5, h6, h7⟩
      · cases d with
        | i n => exact .inl ⟨n, hx.int, hy.int⟩
        | non => cases hd
        | t zs =>
          obtain ⟨a, xs, rfl, ha, hxs⟩ := hx.tup
          obtain ⟨b, ys, rfl, hb, hys⟩ := hy.tup
          exact .inr ⟨false, xs, ys, zs, ⟨a, rfl, iteF ha⟩, ⟨b, rfl, iteF hb⟩, hxs, hys, hd.1, hd.2⟩
      · exact .inr ⟨true, xs, ys, ds, h2, h3, h4, h5, h6, h7⟩
    rcases cases3 with ⟨n, rfl, rfl⟩ | ⟨l, xs, ys, ds, hx, hy, rx, ry, h5, hit⟩
    · refine ⟨.int n, rfl, by show 2 ≤ sizeLine; decide, fun tp ntp => ⟨.int n, tp, _, .type "int", _, false, rfl, upd_same, clsTL, .base (.int n), kit2 (b1 := false) (b2 := false) (by decide +kernel) (by decide +kernel) rfl, false, rfl, iteF ?_⟩⟩
      refine ⟨.int n, rfl, rfl, false, rfl, iteF ?_⟩
      refine ⟨.int n, rfl, .int n, .ty "str", .type "int", .type "str", false, rfl, .ty "str", .base (.int n), kit_ty (by decide +kernel), false, rfl, iteF ?_⟩
      refine ⟨.int n, rfl, .int n, .ty "int", .type "int", .type "int", true, rfl, .ty "int", .base (.int n), kit_ty (by decide +kernel), true, rfl, iteT ?_⟩
      refine ⟨.int n, rfl, .int n, .ty "bool", .type "int", .type "bool", false, rfl, .ty "bool", .base (.int n), kit_ty (by decide +kernel), .int n, rfl, .int n, .ty "bool", .type "int", .type "bool", false, rfl, .ty "bool", .base (.int n), kit_ty (by decide +kernel), rfl, true, rfl, iteT ?_⟩
      refine ⟨.int n, rfl, .int n, rfl, rfl, ?_⟩
      show Q (.bl (decide (V.int n = V.int n))) _
      rw [decide_eq_true rfl]
      exact q _ (same_new ntp)
    · have hxl := rx.len
      have hyl := ry.len
      obtain ⟨xa, rfl, _⟩ := id hx
      obtain ⟨ya, rfl, _⟩ := id hy
      have k2 : PySem.W.kitAny K (.type (if l = true then "list" else "tuple")) [.type "tuple", .type "list"] = some true := by
        cases l with
        | true => exact kit2 (b1 := false) (b2 := true) (by decide +kernel) (by decide +kernel) rfl
        | false => exact kit2 (b1 := true) (b2 := false) (by decide +kernel) (by decide +kernel) rfl
      have k1 : PySem.W.kitOne K (.type (if l = true then "list" else "tuple")) (.type "list") = some l := by
        cases l with
        | true => exact kit_ty (by decide +kernel)
        | false => exact kit_ty (by decide +kernel)
      refine ⟨.ref ya, rfl, by show 2 ≤ sizeLine; decide, fun tp ntp => ⟨.ref ya, tp, _, _, _, true, rfl, upd_same, clsTL, (hy.keep (same_new ntp)).ty, k2, true, rfl, iteT ?_⟩⟩
      have s1 : Same H (upd H tp (.tup [.ty "tuple", .ty "list"])) := same_new ntp
      generalize upd H tp (.tup [.ty "tuple", .ty "list"]) = H1 at s1
      refine ⟨.ref xa, rfl, by show 2 ≤ sizeLine; decide, fun tp ntp => ⟨.ref xa, tp, _, _, _, true, rfl, upd_same, clsTL, ((hx.keep s1).keep (same_new ntp)).ty, k2, true, rfl, iteF ?_⟩⟩
      have s2 : Same H1 (upd H1 tp (.tup [.ty "tuple", .ty "list"])) := same_new ntp
      generalize upd H1 tp (.tup [.ty "tuple", .ty "list"]) = H2 at s2
      have s12 := s1.trans s2
      have hx2 := hx.keep s12
      have hy2 := hy.keep s12
      have rx2 := rx.keep (same_t s12)
      have ry2 := ry.keep (same_t s12)
      refine ⟨.ref xa, rfl, .ref xa, .ty "list", _, .type "list", l, rfl, .ty "list", hx2.ty, k1, .ref ya, rfl, .ref ya, .ty "list", _, .type "list", l, rfl, .ty "list", hy2.ty, k1, by cases l <;> rfl, _, rfl, iteNS rfl ?_⟩
      refine ⟨.ref xa, rfl, xa, xs, rfl, hx2.sq, .ref ya, rfl, ya, ys, rfl, hy2.sq, rfl, _, rfl, iteNS (by rw [hxl, hyl]) ?_⟩
      refine ⟨.ref ya, rfl, ya, ys, rfl, hy2.sq, _, rfl, by omega, by omega, fun D nD => ?_⟩
      have hw : Walk (Itr 0 (ys.length : Int).toNat) (evb ds.length).length (fun _ => True) (YFn fun i => .int (0 + (i : Int))) := by
        rw [evb_len, Int.toNat_natCast, hyl]
        exact walk_range
      refine lcP (evb ds.length) Dt.i (fun _ => false) id Dt.i hw nD (fun _ _ => True.intro) (by rw [evb_len]; exact h5) yFn ?_ ?_
      · intro z vz H3 R R' hz s3 rz hT hF
        cases rz
        have hb := mem_evb.mp hz
        have hzl : z.toNat < ds.length := by omega
        obtain ⟨u, hu, ru⟩ := (rx2.keep (same_t s3)).get (List.getElem?_eq_getElem hzl)
        obtain ⟨t, ht, rt⟩ := (ry2.keep (same_t s3)).get (List.getElem?_eq_getElem hzl)
        have ez : z = ((z.toNat : Nat) : Int) := by omega
        have gu : atI xs z = some u := by
          rw [ez]
          exact atI_nat hu
        have gt : atI ys z = some t := by
          rw [ez]
          exact atI_nat ht
        refine ⟨rfl, .ref xa, rfl, .int z, rfl, (hx2.keep s3).ix gu ⟨.ref ya, rfl, .int z, rfl, (hy2.keep s3).ix gt ⟨u, t, rfl, .inl ⟨ds[z.toNat], hit _ (List.getElem_mem hzl), ru, rt⟩, fun H4 s4 => ⟨true, rfl, iteF (hF rfl _ s4)⟩⟩⟩⟩
      · intro H3 zs s3 hD rz
        have en : ((evb ds.length).filter fun _ => false) = [] := List.filter_eq_nil_iff.mpr (by simp)
        rw [en] at rz
        refine ⟨Nat.zero_le _, fun k nk => eq_nil K hD rz (dep_ints []) (by decide) nk (q _ ?_)⟩
        exact (s12.trans s3).trans (same_new nk)
theorem cAlike (D : Stand K mg "_law_alike" dAlike) (B : Blt mg) : ∀ n : Nat, Cal P w K mg base (n + 1) "_law_alike" (spAlike n)
  | 0 => cAlike0 D B
  | n + 1 => cAlikeS D B (cAlike D B n)
end
end K16
namespace K16
open PySem PySem.Spec PyProof.Rows L2 Classical
/-! ### a dict whose keys are ties -/
abbrev ekT (t : Tie) : List L2.Key := [.inl t.1, .inl t.2]
def encD (ks : List Tie) : List (List L2.Key × V) := ks.map fun t => (ekT t, V.bl true)
noncomputable def putT (ks : List Tie) (t : Tie) : List Tie := if t ∈ ks then ks else ks ++ [t]
theorem ekT_inj {t u : Tie} (h : ekT t = ekT u) : t = u := by
  have h1 := List.cons.inj h
  have h2 := List.cons.inj h1.2
  exact Prod.ext (Sum.inl.inj h1.1) (Sum.inl.inj h2.1)
theorem encD_any {ks : List Tie} {t : Tie} : ((encD ks).any fun kv => decide (kv.1 = ekT t)) = true ↔ t ∈ ks := by
  rw [List.any_eq_true]
  constructor
  · rintro ⟨kv, hkv, e⟩
    obtain ⟨u, hu, rfl⟩ := List.mem_map.mp hkv
    have e' : ekT u = ekT t := of_decide_eq_true e
    rw [← ekT_inj e']
    exact hu
  · intro h
    exact ⟨(ekT t, V.bl true), List.mem_map.mpr ⟨t, h, rfl⟩, decide_eq_true rfl⟩
theorem putK_enc (ks : List Tie) (t : Tie) : putK (encD ks) (ekT t) (.bl true) = encD (putT ks t) := by
  unfold putK putT
  by_cases c : t ∈ ks
  · rw [if_pos (encD_any.mpr c), if_pos c]
    conv => rhs; rw [← List.map_id (encD ks)]
    refine List.map_congr_left fun kv hkv => ?_
    obtain ⟨u, hu, rfl⟩ := List.mem_map.mp hkv
    show (if ekT u = ekT t then (ekT u, V.bl true) else (ekT u, V.bl true)) = (ekT u, V.bl true)
    split <;> rfl
  · rw [if_neg fun z => c (encD_any.mp z), if_neg c]
    unfold encD
    rw [List.map_append]
    rfl
theorem mem_putT {ks : List Tie} {t u : Tie} : u ∈ putT ks t ↔ u ∈ ks ∨ u = t := by
  unfold putT
  split
  · rename_i h
    constructor
    · exact .inl
    · rintro (k | k)
      · exact k
      · rw [k]
        exact h
  · simp
theorem putT_nodup {ks : List Tie} {t : Tie} (h : ks.Nodup) : (putT ks t).Nodup := by
  unfold putT
  split
  · exact h
  · rename_i c
    exact List.nodup_append.mpr ⟨h, by simp, fun x hx y hy e => c (by rw [List.mem_singleton.mp hy] at e; exact e ▸ hx)⟩
theorem putT_len {ks : List Tie} {t : Tie} : (putT ks t).length ≤ ks.length + 1 := by
  unfold putT
  split
  · omega
  · rw [List.length_append]
    exact Nat.le_refl _
/-! ### the row turns -/
def SB (r : Addr) (H H' : Hp) : Prop := ∀ b o, b ≠ r → H b = some o → H' b = some o
structure RowOk (r a : Addr) (H : Hp) : Prop where
  ex : ∃ i m c : Int, H r = some (.lst (rowV a i m c)) ∧ 0 ≤ i ∧ 0 ≤ m ∧ m < 2147483648
theorem SB.refl (r : Addr) (H : Hp) : SB r H H := fun _ _ _ h => h
theorem SB.trans {r : Addr} {H H1 H2 : Hp} (s : SB r H H1) (t : SB r H1 H2) : SB r H H2 := fun b o n h => t b o n (s b o n h)
theorem sb_same {r : Addr} {H H' : Hp} (s : Same H H') : SB r H H' := fun b o _ h => s b o h
theorem sb_row {r a : Addr} {H : Hp} {i m c : Int} (h1 : 0 ≤ i) (h2 : 0 ≤ m) (h3 : m < 2147483648) : SB r H (upd H r (.lst (rowV a i m c))) ∧ RowOk r a (upd H r (.lst (rowV a i m c))) :=
  ⟨fun b o n h => by rw [upd_ne n]; exact h, ⟨i, m, c, upd_same, h1, h2, h3⟩⟩
theorem row_same {r a : Addr} {H H' : Hp} (h : RowOk r a H) (s : Same H H') : RowOk r a H' := by
  obtain ⟨i, m, c, h1, h2⟩ := h.ex
  exact ⟨i, m, c, s _ _ h1, h2⟩
theorem row_own {r a D : Addr} {H : Hp} {o : HO} (h : RowOk r a H) (n : D ≠ r) : RowOk r a (upd H D o) := by
  obtain ⟨i, m, c, h1, h2⟩ := h.ex
  exact ⟨i, m, c, by rw [upd_ne n.symm]; exact h1, h2⟩
theorem SB.sq {K : PySem.W.Frag} {r a : Addr} {H H' : Hp} {xs : List V} (s : SB r H H') (h : SqL K H a xs) (n : NR K a r xs) : SqL K H' a xs := by
  rcases n with n | n
  · rcases h with (h | ⟨o, h⟩) | h
    · exact .inl (.inl (s _ _ n h))
    · exact .inl (.inr ⟨o, s _ _ n h⟩)
    · exact .inr h
  · exact .inr n
theorem SB.t {r a : Addr} {H H' : Hp} (s : SB r H H') (h : RowOk r a H) : SameT H H' := fun b xs e => by
  refine s b _ (fun z => ?_) e
  obtain ⟨i, m, c, h1, _⟩ := h.ex
  rw [z, h1] at e
  cases e
theorem SB.free {r : Addr} {H H' : Hp} (s : SB r H H') {b : Addr} (n : b ≠ r) (h : H' b = none) : H b = none := by
  cases q : H b with
  | none => rfl
  | some o =>
    rw [s b o n q] at h
    cases h
/-- own cell changed -/
theorem SB.own {r D : Addr} {G H : Hp} {o : HO} (s : SB r G H) (n : G D = none) : SB r G (upd H D o) := fun b u nb e => by
  rw [upd_ne (ne_of_none e n)]
  exact s b u nb e
theorem ifexp_join {c : Bool} {tA tB : TE} {σ : L2.St} {H1 : Hp} {Q' : VK} (S : VK) (hA : c = true → ∀ Q0 : VK, (∀ v H, S v H → Q0 v H) → tA σ H1 Q0) (hB : c = false → ∀ Q0 : VK, (∀ v H, S v H → Q0 v H) → tB σ H1 Q0) (hQ : ∀ v H, S v H → Q' v H) :
    if c = true then tA σ H1 Q' else tB σ H1 Q' := by
  cases c with
  | true => exact iteT (hA rfl _ hQ)
  | false => exact iteF (hB rfl _ hQ)
theorem rpl_keys {H : Hp} : ∀ {ks : List Tie} {bs : List Addr}, IsKeys H (encD ks) bs → RpL H (bs.map V.ref) (ks.map eP)
  | [], bs, h => by
    cases h
    exact .nil
  | t :: ks, bs, h => by
    cases h with
    | cons h1 h2 => exact .cons (rp_pair h1) (rpl_keys h2)
/-- what the law draws -/
structure Drawn (nums : List Int) (ts : List Tie) : Prop where
  good : Good nums ts
  n7 : nums.length ≤ 7
  small : ∀ x ∈ nums, -3 ≤ x ∧ x ≤ 5
  t10 : ts.length ≤ 10
/-- the keys so far -/
structure Keys (n i : Nat) (ks : List Tie) (m : Nat) : Prop where
  nd : ks.Nodup
  ok : ∀ t ∈ ks, 0 ≤ t.1 ∧ t.1 < t.2 ∧ t.2 < (n : Int)
  len : ks.length ≤ m
  tree : ∀ r : Int, 1 ≤ r → r ≤ (i : Int) → ∃ q, 0 ≤ q ∧ q < r ∧ (q, r) ∈ ks
theorem Keys.put {n i m : Nat} {ks : List Tie} {t : Tie} (h : Keys n i ks m) (h1 : 0 ≤ t.1) (h2 : t.1 < t.2) (h3 : t.2 < (n : Int)) : Keys n i (putT ks t) (m + 1) where
  nd := putT_nodup h.nd
  ok := fun u hu => by
    rcases mem_putT.mp hu with k | k
    · exact h.ok u k
    · rw [k]
      exact ⟨h1, h2, h3⟩
  len := Nat.le_trans putT_len (Nat.succ_le_succ h.len)
  tree := fun r r1 r2 => by
    obtain ⟨q, a, b, c⟩ := h.tree r r1 r2
    exact ⟨q, a, b, mem_putT.mpr (.inl c)⟩
theorem Keys.next {n i m : Nat} {ks : List Tie} {q : Int} (h : Keys n i ks m) (h1 : 0 ≤ q) (h2 : q < (i : Int) + 1) (h3 : (i : Int) + 1 < (n : Int)) : Keys n (i + 1) (putT ks (q, (i : Int) + 1)) (m + 1) where
  nd := (h.put (t := (q, (i : Int) + 1)) h1 h2 h3).nd
  ok := (h.put (t := (q, (i : Int) + 1)) h1 h2 h3).ok
  len := (h.put (t := (q, (i : Int) + 1)) h1 h2 h3).len
  tree := fun r r1 r2 => by
    by_cases e : r ≤ (i : Int)
    · obtain ⟨p, a, b, c⟩ := h.tree r r1 e
      exact ⟨p, a, b, mem_putT.mpr (.inl c)⟩
    · have er : r = (i : Int) + 1 := by omega
      subst er
      exact ⟨q, h1, h2, mem_putT.mpr (.inr rfl)⟩
theorem drawn_of {n m : Nat} {ks qs : List Tie} {nums : List Int} (hk : Keys n (n - 1) ks m) (hm : m ≤ 10) (hp : qs.Perm ks) (hs : qs.Pairwise fun a b => ¬ pairLt b a) (hn : nums.length = n) (h1 : 1 ≤ n) (h7 : n ≤ 7) (hv : ∀ x ∈ nums, -3 ≤ x ∧ x ≤ 5) : Drawn nums qs := by
  subst hn
  have hl : qs.length ≤ 10 := by
    rw [hp.length_eq]
    exact Nat.le_trans hk.len hm
  refine ⟨⟨h1, by omega, fun x hx => by have := hv x hx; omega, fun t ht => hk.ok t (hp.mem_iff.mp ht), pl_strict hs (hp.nodup_iff.mpr hk.nd), ?_, by omega⟩, h7, hv, hl⟩
  refine conn_of (adj_sym qs) fun r r1 r2 => ?_
  obtain ⟨q, a, b, c⟩ := hk.tree r r1 (by omega)
  exact ⟨q, a, b, .inl (hp.mem_iff.mpr c)⟩
section
variable {P : Program} {w : World} {K : PySem.W.Frag} {mg : Str → Option Value} {base : Heap}
/-! ### _law_web -/
abbrev dLWeb : Stmt := topS 35
abbrev nLWeb : List Str := ["_law_row", "_law_most", "_law_high", "_law_many", "_law_numbers", "_law_ties_here", "_law_person", "_law_turn", "_law_one"]
theorem scLWeb : FnScope nLWeb ["_law_row", "_law_most", "_law_high"] (defScope dLWeb) := ⟨rfl, rfl, rfl, by decide +kernel, rfl, by decide +kernel, by decide +kernel⟩
def spLWeb (K : PySem.W.Frag) : Sp := fun vs H Q _ => ∃ (r a : Addr) (ns : List Int), vs = [.ref r, .int 7, .int 9] ∧ RowOk r a H ∧ SqL K H a (ns.map V.int) ∧ NR K a r (ns.map V.int) ∧
  ∀ (H' : Hp) (v : V) (nums : List Int) (ts : List Tie), SB r H H' → RowOk r a H' → Rp H' v (eW nums ts) → Drawn nums ts → Q v H'
theorem cLWeb (D : Stand K mg "_law_web" dLWeb) (B : Blt mg) (C1 : Cal P w K mg base 1 "_law_taken" (spTaken K)) : Cal P w K mg base 2 "_law_web" (spLWeb K) := by
  refine cal_of D scLWeb (fun _ _ _ _ _ _ us hl => match us, hl with | [_, _, _], _ => rfl) (fun vs H Q E h => ?_) (fun f cdv A outer s H vs Q E hr h => ?_)
  · obtain ⟨r, a, ns, rfl, _⟩ := h
    rfl
  · obtain ⟨r, a, ns, rfl, hro, hS, nar, q⟩ := h
    refine ⟨_, pss_cons (ps_set (i := 3) scLWeb.nd rfl (.inl rfl) (pe_op op_add pe_int (pcl C1 hr (by decide) (by rfl) (pa_cons (pv 0) (pa_cons (pv 1) pa_nil)))))
      (pss_cons (ps_set (i := 4) scLWeb.nd rfl (.inl rfl) (pe_tupleOf (by rfl) B.tuple (pe_lc (own := [("_law_person", 6)]) (g := gName 6) rfl scLWeb.nd (pi_range1 (by rfl) B.range (pa_cons (pv 3) pa_nil))
          (blkOk_by (N := nLWeb) (sc := defScope dLWeb) (by decide +kernel)) (fun _ _ _ _ _ => pg_name (i := 6) scLWeb.nd rfl (Or.inl rfl)) (fun _ _ _ _ _ => pts_nil)
          (fun _ _ _ _ _ => pe_op op_sub (pcl C1 hr (by decide) (by rfl) (pa_cons (pv 0) (pa_cons (pv 2) pa_nil))) (pe_op op_fdiv (pv 2) pe_int)))))
      (pss_cons (ps_set (i := 5) scLWeb.nd rfl (.inl rfl) pe_dnewT)
      (pss_cons (ps_for PassesOwn.never rfl (pi_range2 (by rfl) B.range (pa_cons pe_int (pa_cons (pv 3) pa_nil))) (pg_name (i := 6) scLWeb.nd rfl (.inl rfl))
        (pss_one (ps_dput (hu_of hr) (pv 5) (pe_tup (pa_cons (pcl C1 hr (by decide) (by rfl) (pa_cons (pv 0) (pa_cons (pv 6) pa_nil))) (pa_cons (pv 6) pa_nil))) pe_bl rfl)))
      (pss_cons (ps_for PassesOwn.never rfl (pi_range1 (by rfl) B.range (pa_cons (pe_ifExp (pt_cmpR op_gt (pv 3) pe_int (nomark _)) (pcl C1 hr (by decide) (by rfl) (pa_cons (pv 0) (pa_cons pe_int pa_nil))) pe_int) pa_nil)) (pg_name (i := 7) scLWeb.nd rfl (.inl rfl))
        (pss_cons (ps_set (i := 8) scLWeb.nd rfl (.inl rfl) (pcl C1 hr (by decide) (by rfl) (pa_cons (pv 0) (pa_cons (pe_op op_sub (pv 3) pe_int) pa_nil))))
        (pss_one (ps_dput (hu_of hr) (pv 5) (pe_tup (pa_cons (pv 8) (pa_cons (pe_op op_add (pe_op op_add (pv 8) pe_int) (pcl C1 hr (by decide) (by rfl) (pa_cons (pv 0) (pa_cons (pe_op op_sub (pe_op op_sub (pv 3) pe_int) (pv 8)) pa_nil)))) pa_nil))) pe_bl rfl))))
      (pss_one (ps_ret (pe_tup (pa_cons (pv 4) (pa_cons (pe_tupleOf (by rfl) B.tuple (pe_callB cr_sortedPO (by rfl) B.sorted (by decide +kernel) (pa_cons (pe_callTy (call_list_dT rfl) (by rfl) B.list (by decide +kernel) (pa_cons (pv 5) pa_nil)) pa_nil))) pa_nil))))))))), ?_⟩
    -- many
    obtain ⟨i, m, c, hrow, b1, b2, b3⟩ := hro.ex
    refine ⟨.ref r, rfl, .int 7, rfl, r, a, ns, i, m, c, 7, rfl, hrow, hS, nar, b1, b2, b3, by decide, by decide, fun i' m' c' x d1 d2 d3 x0 x7 => ⟨1, x, rfl, rfl, ?_⟩⟩
    obtain ⟨sb1, ro1⟩ := sb_row (r := r) (a := a) (H := H) (c := c') d1 d2 d3
    generalize upd H r (.lst (rowV a i' m' c')) = H1 at sb1 ro1
    obtain ⟨n, hn, n1, n7⟩ : ∃ n : Nat, 1 + x = (n : Int) ∧ 1 ≤ n ∧ n ≤ 7 := ⟨(1 + x).toNat, by omega, by omega, by omega⟩
    show gName 3 (V.int (1 + x)) _ _ _
    rw [hn]
    -- numbers
    refine ⟨.int (n : Int), rfl, (n : Int), rfl, by omega, by omega, fun D nD => ?_⟩
    have nDr : D ≠ r := fun z => by
      obtain ⟨_, _, _, h, _⟩ := ro1.ex
      rw [z, h] at nD
      cases nD
    refine lc_range (lo := 0) (n := ((n : Int)).toNat) (fun k H' => SB r H1 H' ∧ RowOk r a H' ∧ ∃ ys : List Int, H' D = some (.lst (ys.map V.int)) ∧ ys.length = k ∧ ∀ y ∈ ys, -3 ≤ y ∧ y ≤ 5)
      ⟨sb_same (same_new nD), row_own ro1 nDr, [], upd_same, rfl, fun y hy => by simp at hy⟩ ?_ ?_
    · rintro k H2 hk ⟨sb2, ro2, ys, hD, hl, hv⟩
      obtain ⟨i, m, c, hrow2, b1, b2, b3⟩ := ro2.ex
      refine ⟨rfl, iteT (B := True) ?_⟩
      refine ⟨.ref r, rfl, .int 9, rfl, r, a, ns, i, m, c, 9, rfl, hrow2, (sb1.trans sb2).sq hS nar, nar, b1, b2, b3, by decide, by decide, fun i' m' c' x d1 d2 d3 x0 x9 => ⟨.int 9, rfl, 9, 3, rfl, rfl, ⟨by decide, by decide⟩, x, 9 / 3, rfl, rfl, ?_⟩⟩
      obtain ⟨sb3, ro3⟩ := sb_row (r := r) (a := a) (H := H2) (c := c') d1 d2 d3
      have hD3 : (upd H2 r (.lst (rowV a i' m' c'))) D = some (.lst (ys.map V.int)) := sb3 _ _ nDr hD
      refine ⟨_, hD3, ?_, (sb2.trans sb3).own nD, row_own ro3 nDr, ys ++ [x - 9 / 3], ?_, ?_, ?_⟩
      · rw [List.length_map]
        exact small60 (by omega)
      · rw [upd_same, List.map_append]
        rfl
      · rw [List.length_append, hl]
        rfl
      · intro y hy
        rcases List.mem_append.mp hy with e | e
        · exact hv y e
        · rw [List.mem_singleton.mp e]
          have : (9 : Int) / 3 = 3 := by decide
          omega
    · rintro H2 ⟨sb2, ro2, nums, hD, hl, hv⟩
      rw [Int.toNat_natCast] at hl
      refine .inl ⟨D, _, rfl, SqL.of hD, fun nt nnt => ?_⟩
      -- the dict
      intro dp ndp
      have e1 : Same H2 (upd H2 nt (.tup (nums.map V.int))) := same_new nnt
      have e2 : Same (upd H2 nt (.tup (nums.map V.int))) (upd (upd H2 nt (.tup (nums.map V.int))) dp (.dT [])) := same_new ndp
      have hnt := e2 _ _ (upd_same (H := H2) (a := nt) (o := .tup (nums.map V.int)))
      have hdp : (upd (upd H2 nt (.tup (nums.map V.int))) dp (.dT [])) dp = some (.dT (encD [])) := upd_same
      have sb3 : SB r H (upd (upd H2 nt (.tup (nums.map V.int))) dp (.dT [])) := (sb1.trans sb2).trans (sb_same (e1.trans e2))
      have ro3 : RowOk r a (upd (upd H2 nt (.tup (nums.map V.int))) dp (.dT [])) := row_same ro2 (e1.trans e2)
      have ndr : dp ≠ r := fun z => by
        obtain ⟨_, _, _, h, _⟩ := (row_same ro2 e1).ex
        rw [z, h] at ndp
        cases ndp
      have nntr : nt ≠ r := fun z => by
        obtain ⟨_, _, _, h, _⟩ := ro2.ex
        rw [z, h] at nnt
        cases nnt
      have ndp0 : H dp = none := by
        have := Same.free e1 ndp
        exact (sb1.trans sb2).free ndr this
      have nnd : nt ≠ dp := ne_of_none (upd_same (H := H2) (a := nt) (o := .tup (nums.map V.int))) ndp
      generalize upd (upd H2 nt (.tup (nums.map V.int))) dp (.dT []) = H3 at hnt hdp sb3 ro3
      -- the tree
      refine ⟨.int (n : Int), rfl, 1, n, rfl, ⟨by decide, by decide, by omega, by omega⟩, ?_⟩
      have hw : Walk (Itr 1 ((n : Int) - 1).toNat) (n - 1) (fun _ => True) (YFn fun i => .int (1 + (i : Int))) := by
        rw [show ((n : Int) - 1).toNat = n - 1 by omega]
        exact walk_range
      refine for_it hw (fun k σ H' => ∃ y6 ks, σ = [some (.ref r), some (.int 7), some (.int 9), some (.int n), some (.ref nt), some (.ref dp), y6, none, none] ∧ SB r H H' ∧ RowOk r a H' ∧ H' nt = some (.tup (nums.map V.int)) ∧ H' dp = some (.dT (encD ks)) ∧ Keys n k ks k)
        ⟨none, [], rfl, sb3, ro3, hnt, hdp, ⟨List.nodup_nil, fun t ht => by simp at ht, Nat.le_refl _, fun r1 h1 h2 => by omega⟩⟩ (fun _ _ _ _ _ => True.intro) ?_ ?_
      · rintro k y σ H4 H4' hk ⟨y6, ks, rfl, sb4, ro4, hnt, hdp, hks⟩ ⟨rfl, rfl⟩
        obtain ⟨i, m, c, hrow4, b1, b2, b3⟩ := ro4.ex
        refine ⟨.ref dp, rfl, .ref r, rfl, .int (1 + (k : Int)), rfl, r, a, ns, i, m, c, 1 + (k : Int), rfl, hrow4, sb4.sq hS nar, nar, b1, b2, b3, by omega, by omega, fun i' m' c' x d1 d2 d3 x0 x9 => ⟨.int (1 + (k : Int)), rfl, by show 2 ≤ sizeLine; decide, fun tp ntp => ?_⟩⟩
        obtain ⟨sb5, ro5⟩ := sb_row (r := r) (a := a) (H := H4') (c := c') d1 d2 d3
        have hnt5 := sb5 _ _ nntr hnt
        have hdp5 := sb5 _ _ ndr hdp
        generalize upd H4' r (.lst (rowV a i' m' c')) = H5 at sb5 ro5 hnt5 hdp5 ntp
        have e6 : Same H5 (upd H5 tp (.tup [.int x, .int (1 + (k : Int))])) := same_new ntp
        have hdp6 := e6 _ _ hdp5
        have hnt6 := e6 _ _ hnt5
        have htp : (upd H5 tp (.tup [.int x, .int (1 + (k : Int))])) tp = some (.tup ((ekT (x, 1 + (k : Int))).map kV)) := upd_same
        have sb6 := (sb4.trans sb5).trans (sb_same e6)
        have ro6 := row_same ro5 e6
        generalize upd H5 tp (.tup [.int x, .int (1 + (k : Int))]) = H6 at hdp6 hnt6 htp sb6 ro6
        refine ⟨dp, _, rfl, DPut.t hdp6 htp ?_, ?_⟩
        · unfold encD
          rw [List.length_map]
          exact small60 (by have := hks.len; omega)
        · refine ⟨_, putT ks (x, (k : Int) + 1), rfl, sb6.own ndp0, row_own ro6 ndr, ?_, ?_, hks.next x0 (by omega) (by omega)⟩
          · rw [upd_ne nnd]
            exact hnt6
          · rw [upd_same, putK_enc, Int.add_comm 1 (k : Int)]
      · rintro σ H4 ⟨y6, ks, rfl, sb4, ro4, hnt, hdp, hks⟩
        -- more ties
        refine ⟨.int (n : Int), rfl, n, 1, rfl, rfl, _, rfl, ?_⟩
        refine ifexp_join (fun v H' => ∃ j : Int, v = .int j ∧ 0 ≤ j ∧ j < 5 ∧ (j = 0 ∨ 2 ≤ n) ∧ SB r H H' ∧ RowOk r a H' ∧ H' nt = some (.tup (nums.map V.int)) ∧ H' dp = some (.dT (encD ks))) ?_ ?_ ?_
        · intro hc Q0 hQ0
          have h2 : 2 ≤ n := by
            have := of_decide_eq_true hc
            omega
          obtain ⟨i, m, c, hrow4, b1, b2, b3⟩ := ro4.ex
          refine ⟨.ref r, rfl, r, a, ns, i, m, c, 5, rfl, hrow4, sb4.sq hS nar, nar, b1, b2, b3, by decide, by decide, fun i' m' c' x d1 d2 d3 x0 x5 => hQ0 _ _ ?_⟩
          obtain ⟨sb5, ro5⟩ := sb_row (r := r) (a := a) (H := H4) (c := c') d1 d2 d3
          exact ⟨x, rfl, x0, x5, .inr h2, sb4.trans sb5, ro5, sb5 _ _ nntr hnt, sb5 _ _ ndr hdp⟩
        · intro hc Q0 hQ0
          exact hQ0 _ _ ⟨0, rfl, by decide, by decide, .inl rfl, sb4, ro4, hnt, hdp⟩
        · rintro v H5 ⟨j, rfl, j0, j5, hj, sb5, ro5, hnt5, hdp5⟩
          refine ⟨j, rfl, by omega, by omega, ?_⟩
          have hw2 : Walk (Itr 0 j.toNat) j.toNat (fun _ => True) (YFn fun i => .int (0 + (i : Int))) := walk_range
          refine for_it hw2 (fun k σ H' => ∃ y6 y7 y8 ks, σ = [some (.ref r), some (.int 7), some (.int 9), some (.int n), some (.ref nt), some (.ref dp), y6, y7, y8] ∧ SB r H H' ∧ RowOk r a H' ∧ H' nt = some (.tup (nums.map V.int)) ∧ H' dp = some (.dT (encD ks)) ∧ Keys n (n - 1) ks (n - 1 + k))
            ⟨y6, none, none, ks, rfl, sb5, ro5, hnt5, hdp5, hks⟩ (fun _ _ _ _ _ => True.intro) ?_ ?_
          · rintro k y σ H6 H6' hk ⟨y6, y7, y8, ks, rfl, sb6, ro6, hnt6, hdp6, hks⟩ ⟨rfl, rfl⟩
            have h2 : 2 ≤ n := by
              rcases hj with e | e
              · subst e
                simp at hk
              · exact e
            obtain ⟨i, m, c, hrow6, b1, b2, b3⟩ := ro6.ex
            refine ⟨.ref r, rfl, .int (n : Int), rfl, n, 1, rfl, rfl, r, a, ns, i, m, c, (n : Int) - 1, rfl, hrow6, sb6.sq hS nar, nar, b1, b2, b3, by omega, by omega, fun i' m' c' one d1 d2 d3 o0 o9 => ?_⟩
            obtain ⟨sb7, ro7⟩ := sb_row (r := r) (a := a) (H := H6') (c := c') d1 d2 d3
            have hnt7 := sb7 _ _ nntr hnt6
            have hdp7 := sb7 _ _ ndr hdp6
            have sb67 := sb6.trans sb7
            generalize upd H6' r (.lst (rowV a i' m' c')) = H7 at sb7 ro7 hnt7 hdp7 sb67
            obtain ⟨i, m, c, hrow7, b1, b2, b3⟩ := ro7.ex
            refine ⟨.ref dp, rfl, .int one, rfl, .int one, rfl, one, 1, rfl, rfl, .ref r, rfl, .int (n : Int), rfl, n, 1, rfl, rfl, .int one, rfl, (n : Int) - 1, one, rfl, rfl, r, a, ns, i, m, c, (n : Int) - 1 - one, rfl, hrow7, sb67.sq hS nar, nar, b1, b2, b3, by omega, by omega, fun i' m' c' x d1 d2 d3 x0 x9 => ⟨one + 1, x, rfl, rfl, by show 2 ≤ sizeLine; decide, fun tp ntp => ?_⟩⟩
            obtain ⟨sb8, ro8⟩ := sb_row (r := r) (a := a) (H := H7) (c := c') d1 d2 d3
            have hnt8 := sb8 _ _ nntr hnt7
            have hdp8 := sb8 _ _ ndr hdp7
            have sb78 := sb67.trans sb8
            generalize upd H7 r (.lst (rowV a i' m' c')) = H8 at sb8 ro8 hnt8 hdp8 sb78 ntp
            have e9 : Same H8 (upd H8 tp (.tup [.int one, .int (one + 1 + x)])) := same_new ntp
            have hdp9 := e9 _ _ hdp8
            have hnt9 := e9 _ _ hnt8
            have htp : (upd H8 tp (.tup [.int one, .int (one + 1 + x)])) tp = some (.tup ((ekT (one, one + 1 + x)).map kV)) := upd_same
            have sb9 := sb78.trans (sb_same e9)
            have ro9 := row_same ro8 e9
            generalize upd H8 tp (.tup [.int one, .int (one + 1 + x)]) = H9 at hdp9 hnt9 htp sb9 ro9
            refine ⟨dp, _, rfl, DPut.t hdp9 htp ?_, ?_⟩
            · unfold encD
              rw [List.length_map]
              exact small60 (by have := hks.len; omega)
            · refine ⟨_, _, _, putT ks (one, one + 1 + x), rfl, sb9.own ndp0, row_own ro9 ndr, ?_, ?_, hks.put o0 (by show one < one + 1 + x; omega) (by show one + 1 + x < (n : Int); omega)⟩
              · rw [upd_ne nnd]
                exact hnt9
              · rw [upd_same, putK_enc]
          · rintro σ H6 ⟨y6, y7, y8, ks, rfl, sb6, ro6, hnt6, hdp6, hks⟩
            refine ⟨.ref nt, rfl, .ref dp, rfl, dp, encD ks, rfl, .inl hdp6, fun lp bs nlp hbs => ?_⟩
            have rb := rpl_keys hbs
            have e7 : Same H6 (upd H6 lp (.lst (bs.map V.ref))) := same_new nlp
            have rb7 := rb.keep (same_t e7)
            refine ⟨lp, bs.map V.ref, kOf (upd H6 lp (.lst (bs.map V.ref))), rfl, SqL.of upd_same, (rpl_kOf rb7).2, fun ys so hys hyb nso => ?_⟩
            obtain ⟨rq, hq1, hq2⟩ := sorted_vals_of rb7 hys hyb
            generalize ys.map (kOf (upd H6 lp (.lst (bs.map V.ref)))) = qs at rq hq1 hq2
            refine .inl ⟨so, ys, rfl, SqL.of upd_same, fun tt ntt => ⟨by show 2 ≤ sizeLine; decide, fun rt nrt => ?_⟩⟩
            have e8 := same_new (o := .lst ys) nso
            have e9 := same_new (o := .tup ys) ntt
            have e10 := same_new (o := .tup [.ref nt, .ref tt]) nrt
            have e78 := e7.trans (e8.trans (e9.trans e10))
            refine q _ _ nums qs (sb6.trans (sb_same e78)) (row_same ro6 e78) ?_ (drawn_of hks (by omega) hq1 hq2 hl n1 n7 hv)
            exact rp_web2 upd_same (e78 _ _ hnt6) (e10 _ _ upd_same) (((rq.keep (same_t e8)).keep (same_t e9)).keep (same_t e10))
end
end K16
namespace K16
open PySem PySem.Spec PyProof.Rows L2 Classical
/-! ### tuples together, cut -/
theorem catR {K : PySem.W.Frag} {H : Hp} {a b : Addr} {xs ys : List V} {Q : VK} (ha : H a = some (.tup xs)) (hb : H b = some (.tup ys)) (hl : xs.length + ys.length ≤ 5000) (k : ∀ c H', Same H H' → H' c = some (.tup (xs ++ ys)) → Q (.ref c) H') : rCatA K (.ref a) (.ref b) H Q := by
  refine ⟨a, b, xs, ys, rfl, rfl, SqT.of ha, SqT.of hb, by rw [sizeLine_eq]; omega, fun e => ?_, fun _ e => ?_, fun _ _ p np => ?_⟩
  · subst e
    exact k b H (Same.refl _) hb
  · subst e
    exact k a H (Same.refl _) (by rw [List.append_nil]; exact ha)
  · exact k p _ (same_new np) upd_same
theorem cutR {K : PySem.W.Frag} {H : Hp} {a : Addr} {xs : List V} {lo hi : Option Int} {Q : VK} (ha : H a = some (.tup xs)) (k : ∀ c H', Same H H' → H' c = some (.tup (cutV xs lo hi)) → Q (.ref c) H') : rSlA K (.ref a) lo hi H Q := by
  refine ⟨a, xs, rfl, SqT.of ha, fun e => ?_, fun _ p np => k p _ (same_new np) upd_same⟩
  refine k a H (Same.refl _) ?_
  have ec : cutV xs lo hi = xs := by
    unfold cutV
    rw [e.1, e.2, List.drop_zero, Nat.sub_zero, List.take_length]
  rw [ec]
  exact ha
theorem cut_to {xs : List V} {p : Nat} (h : p ≤ xs.length) : cutV xs none (some (p : Int)) = xs.take p := by
  unfold cutV
  rw [HT.sIx_none, HT.sIx_nat, List.drop_zero, Nat.sub_zero, Nat.min_eq_left h]
theorem cut_from {xs : List V} {p : Nat} (h : p ≤ xs.length) : cutV xs (some (p : Int)) none = xs.drop p := by
  unfold cutV
  rw [HT.sIx_none, HT.sIx_nat, Nat.min_eq_left h]
  exact List.take_of_length_le (by rw [List.length_drop]; omega)
/-! ### how deep the data are -/
theorem it_eP (k : Nat) (t : Tie) : IT (k + 1) (eP t) := by
  refine ⟨by show 2 ≤ 5000; decide, fun x hx => ?_⟩
  rcases List.mem_cons.mp hx with e | e
  · subst e
    cases k <;> exact True.intro
  · rw [List.mem_singleton.mp e]
    cases k <;> exact True.intro
theorem it_eT (k : Nat) (ns : List Int) (h : ns.length ≤ 5000) : IT (k + 1) (eT ns) := by
  refine ⟨by rw [List.length_map]; exact h, fun x hx => ?_⟩
  obtain ⟨n, _, rfl⟩ := List.mem_map.mp hx
  cases k <;> exact True.intro
theorem it_eTs (k : Nat) (ts : List Tie) (h : ts.length ≤ 5000) : IT (k + 2) (eTs ts) := by
  refine ⟨by rw [List.length_map]; exact h, fun x hx => ?_⟩
  obtain ⟨t, _, rfl⟩ := List.mem_map.mp hx
  exact it_eP k t
theorem it_eC (k : Nat) (ts : List Tie) (nums : List Int) (t : Tie) (h : nums.length ≤ 5000) : IT (k + 2) (eC ts nums t) := by
  refine ⟨by show 2 ≤ 5000; decide, fun x hx => ?_⟩
  rcases List.mem_cons.mp hx with e | e
  · subst e
    exact it_eP k t
  · rw [List.mem_singleton.mp e]
    refine it_eT k _ ?_
    unfold costsS
    rw [List.length_map, evb_len]
    exact h
theorem it_eCs (k : Nat) (ts : List Tie) (nums : List Int) (h : nums.length ≤ 5000) (h2 : ts.length ≤ 5000) : IT (k + 3) (eCs ts nums) := by
  refine ⟨by rw [List.length_map]; exact Nat.le_trans (List.length_filter_le _ _) h2, fun x hx => ?_⟩
  obtain ⟨t, _, rfl⟩ := List.mem_map.mp hx
  exact it_eC k ts nums t h
theorem it_eW (k : Nat) (nums : List Int) (ts : List Tie) (h : nums.length ≤ 5000) (h2 : ts.length ≤ 5000) : IT (k + 3) (eW nums ts) := by
  refine ⟨by show 2 ≤ 5000; decide, fun x hx => ?_⟩
  rcases List.mem_cons.mp hx with e | e
  · subst e
    exact it_eT (k + 1) nums h
  · rw [List.mem_singleton.mp e]
    exact it_eTs k ts h2
/-! ### the law -/
abbrev dLaw : Stmt := topS 41
abbrev nLaw : List Str := ["_law_script", "_law_row", "_law_web_here", "_law_many", "_law_person", "_law_free", "_law_one", "_law_due", "_law_lots", "_law_size", "_law_lot", "_law_other", "_law_later", "_law_found", "_law_told", "_law_deep_here", "_law_cuts", "_law_rest_here", "_law_tie", "_law_top", "_law_part"]
theorem scLaw : FnScope nLaw ["_law_script"] (defScope dLaw) := ⟨rfl, rfl, rfl, by decide +kernel, rfl, by decide +kernel, by decide +kernel⟩
section
variable (P : Program) (w : World) (K : PySem.W.Frag) (mg : Str → Option Value) (base : Heap)
structure LawC : Prop where
  tk : Cal P w K mg base 1 "_law_taken" (spTaken K)
  al : Cal P w K mg base 5 "_law_alike" (spAlike 4)
  wb : Cal P w K mg base 2 "_law_web" (spLWeb K)
  pt : Cal P w K mg base 1 "_law_parts" spLParts
  dp : Cal P w K mg base 3 "_law_deep" spLDeep
  fw : Cal P w K mg base 6 "fewest_ties" spFew
  sm : Cal P w K mg base 5 "some_ties" spSome
  br : Cal P w K mg base 5 "bridges" spBrs
  cw : Cal P w K mg base 6 "costs_without" spCW
  wo : Cal P w K mg base 5 "worst_numbers" spWorst
abbrev lawX (f : Addr) (cdv : Value) (A : Around) (outer : List Env) (s : Shared) (H : Hp) (E : XK) : Cx := (cxOf CX0 P w K mg base nLaw "law" (defScope dLaw) f cdv A outer s H E).nox
abbrev lawD (Q : VK) : Ends := { nx := fun _ H' => Q .non H', rt := Q }
abbrev lawB (k : Nat) : List Stmt := (defBody dLaw).drop k
abbrev lawRoom (f : Addr) (cdv : Value) (A : Around) (s : Shared) : Prop := Room 6 (A.deeper (envOfC "law" (defScope dLaw) s.heap.objs.size f cdv))
end
section
variable {P : Program} {w : World} {K : PySem.W.Frag} {mg : Str → Option Value} {base : Heap}
/-- from the last test on -/
theorem lawE (C : LawC P w K mg base) (B : Blt mg) (f : Addr) (cdv : Value) (A : Around) (outer : List Env) (s : Shared) (H : Hp) (E : XK) (hr : lawRoom f cdv A s) (Q : VK) (hQ : ∀ H', Q (.bl true) H') :
    ∃ t, PSs (lawX P w K mg base f cdv A outer s H E) (lawB 14) t ∧ ∀ (y0 y1 y5 y6 y7 y8 y9 y10 y11 y12 y13 y14 y15 y18 y19 y20 : Option V) (v : V) (n p : Int) (oc orr : Addr) (H1 : Hp) (nums : List Int) (ts : List Tie) (cx rx : List V),
      Rp H1 v (eW nums ts) → Drawn nums ts → p ∈ evb nums.length → H1 oc = some (.lst cx) → RpL H1 cx ((ts.filter (brg ts nums.length)).map eP) → H1 orr = some (.lst rx) → RpL H1 rx ((ts.filter fun t => !brg ts nums.length t).map (eC ts nums)) →
      t (lawD Q) [y0, y1, some v, some (.int n), some (.int p), y5, y6, y7, y8, y9, y10, y11, y12, y13, y14, y15, some (.ref oc), some (.ref orr), y18, y19, y20] H1 := by
  refine ⟨_, pss_cons (ps_if (pt_not (pt_val (pcl C.al hr (by decide) (by rfl) (pa_cons (pe_lst (pa_cons (pcl C.br hr (by decide) (by rfl) (pa_cons (pv 2) pa_nil)) (pa_cons (pcl C.cw hr (by decide) (by rfl) (pa_cons (pv 2) pa_nil)) pa_nil)))
        (pa_cons (pe_lst (pa_cons (pe_tupleOf (by rfl) B.tuple (pv 16)) (pa_cons (pe_tupleOf (by rfl) B.tuple (pv 17)) pa_nil))) pa_nil))))) (pss_one ps_never) pss_nil)
      (pss_cons (ps_set (i := 19) scLaw.nd rfl (.inl rfl) (pe_op op_add (pe_callB (cr_maxT rfl) (by rfl) B.max (by decide +kernel) (pa_cons (pe_ix ix_tup (pv 2) pe_int (fun _ _ => rfl)) pa_nil)) pe_int))
      (pss_one (ps_ret (pcl C.al hr (by decide) (by rfl) (pa_cons (pcl C.wo hr (by decide) (by rfl) (pa_cons (pv 2) (pa_cons (pv 4) pa_nil)))
        (pa_cons (pe_tup (pa_cons (pe_op op_catA (pe_op op_catA (pe_slice sl_tupA (pe_ix ix_tup (pv 2) pe_int (fun _ _ => rfl)) po_none (po_some (pv 4))) (pe_tup (pa_cons (pv 19) pa_nil)))
          (pe_slice sl_tupA (pe_ix ix_tup (pv 2) pe_int (fun _ _ => rfl)) (po_some (pe_op op_add (pv 4) pe_int)) po_none)) (pa_cons (pe_ix ix_tup (pv 2) pe_int (fun _ _ => rfl)) pa_nil))) pa_nil)))))), ?_⟩
  intro y0 y1 y5 y6 y7 y8 y9 y10 y11 y12 y13 y14 y15 y18 y19 y20 v n p oc orr H1 nums ts cx rx hv dr hp hoc rcx horr rrx
  have g := dr.good
  have hn5 : nums.length ≤ 5000 := by have := g.n8; omega
  have ht5 : ts.length ≤ 5000 := by have := g.t60; omega
  obtain ⟨a, b, c, rfl, ha, hb, xs, hc, hl⟩ := hv.web
  -- [bridges, costs_without] and [tuple(cuts), tuple(rest)]
  refine ⟨.ref a, rfl, .ref a, nums, ts, rfl, hv, g, fun H2 r2 s2 hr2 => ⟨.ref a, rfl, .ref a, nums, ts, rfl, hv.keep (same_t s2), g, fun H3 r3 s3 hr3 => ⟨by show 2 ≤ sizeLine; decide, fun l1 nl1 => ?_⟩⟩⟩
  have s4 : Same H3 (upd H3 l1 (.lst [r2, r3])) := same_new nl1
  have h4 : (upd H3 l1 (.lst [r2, r3])) l1 = some (.lst [r2, r3]) := upd_same
  have q2 := (hr2.keep (same_t s3)).keep (same_t s4)
  have q3 := hr3.keep (same_t s4)
  have s14 := (s2.trans s3).trans s4
  generalize upd H3 l1 (.lst [r2, r3]) = H4 at h4 q2 q3 s14
  have hoc4 := s14 _ _ hoc
  have rcx4 := rcx.keep (same_t s14)
  have horr4 := s14 _ _ horr
  have rrx4 := rrx.keep (same_t s14)
  refine ⟨.ref oc, rfl, .inl ⟨oc, cx, rfl, SqL.of hoc4, fun t1 nt1 => ⟨.ref orr, rfl, .inl ⟨orr, rx, rfl, SqL.of (same_new nt1 _ _ horr4), fun t2 nt2 => ⟨by show 2 ≤ sizeLine; decide, fun l2 nl2 => ?_⟩⟩⟩⟩⟩
  have e1 := same_new (o := .tup cx) nt1
  have e2 := same_new (o := .tup rx) nt2
  have e3 := same_new (o := .lst [.ref t1, .ref t2]) nl2
  have e13 := e1.trans (e2.trans e3)
  have hl2 : (upd (upd (upd H4 t1 (.tup cx)) t2 (.tup rx)) l2 (.lst [.ref t1, .ref t2])) l2 = some (.lst [.ref t1, .ref t2]) := upd_same
  have ht1 := (e2.trans e3) _ _ (upd_same (H := H4) (a := t1) (o := .tup cx))
  have ht2 := e3 _ _ (upd_same (H := upd H4 t1 (.tup cx)) (a := t2) (o := .tup rx))
  have rcx5 := rcx4.keep (same_t e13)
  have rrx5 := rrx4.keep (same_t e13)
  have h5 := e13 _ _ h4
  have q25 := q2.keep (same_t e13)
  have q35 := q3.keep (same_t e13)
  have s15 := s14.trans e13
  generalize upd (upd (upd H4 t1 (.tup cx)) t2 (.tup rx)) l2 (.lst [.ref t1, .ref t2]) = H5 at hl2 ht1 ht2 rcx5 rrx5 h5 q25 q35 s15
  refine ⟨.ref l1, .ref l2, rfl, .inr ⟨[r2, r3], [.ref t1, .ref t2], [eTs (ts.filter (brg ts nums.length)), eCs ts nums], by decide, ⟨l1, rfl, iteT h5⟩, ⟨l2, rfl, iteT hl2⟩, .cons q25 (.cons q35 .nil), .cons (.t ht1 rcx5) (.cons (.t ht2 rrx5) .nil), by show 2 ≤ 5000; decide, fun d hd => ?_⟩, fun H6 s6 => ⟨true, rfl, iteF ?_⟩⟩
  · rcases List.mem_cons.mp hd with e | e
    · subst e
      exact it_eTs 1 _ (Nat.le_trans (List.length_filter_le _ _) ht5)
    · rw [List.mem_singleton.mp e]
      exact it_eCs 0 ts nums hn5 ht5
  have s16 := s15.trans s6
  -- top
  have ha6 := s16 _ _ ha
  have hb6 := s16 _ _ hb
  refine ⟨.ref a, rfl, a, _, 0, .ref b, rfl, rfl, SqT.of ha6, atI_nat (j := 0) rfl, b, nums, rfl, SqT.of hb6, by have := g.n1; omega, fun m hm hle => ⟨m, 1, rfl, rfl, ?_⟩⟩
  refine ⟨.ref a, rfl, .int p, rfl, .ref a, nums, ts, p, rfl, hv.keep (same_t s16), g, hp, fun x hx => by have := dr.small x hx; omega, fun H7 r7 m7 s7 hm7 hle7 hr7 => ?_⟩
  have em : m7 = m := by
    have h1 := hle m7 hm7
    have h2 := hle7 m hm
    omega
  subst em
  have s17 := s16.trans s7
  have ha7 := s17 _ _ ha
  have hb7 := s17 _ _ hb
  have hpb := mem_evb.mp hp
  have hpn : p = ((p.toNat : Nat) : Int) := by omega
  have hlen : (nums.map V.int).length = nums.length := List.length_map ..
  refine ⟨.ref a, rfl, a, _, 0, .ref b, rfl, rfl, SqT.of ha7, atI_nat (j := 0) rfl, .int p, rfl, p, rfl, ?_⟩
  refine cutR hb7 fun k1 H8 s8 hk1 => ⟨.int (m7 + 1), rfl, by show 1 ≤ sizeLine; decide, fun k2 nk2 => ?_⟩
  have e9 : Same H8 (upd H8 k2 (.tup [.int (m7 + 1)])) := same_new nk2
  rw [hpn, cut_to (by omega)] at hk1
  refine catR (e9 _ _ hk1) upd_same (by rw [List.length_take]; show _ + 1 ≤ 5000; omega) fun k3 H9 s9 hk3 => ?_
  have s19 := s17.trans (s8.trans (e9.trans s9))
  have ha9 := s19 _ _ ha
  have hb9 := s19 _ _ hb
  refine ⟨.ref a, rfl, a, _, 0, .ref b, rfl, rfl, SqT.of ha9, atI_nat (j := 0) rfl, .int p, rfl, p, 1, rfl, rfl, p + 1, rfl, ?_⟩
  have ep1 : p + 1 = ((p.toNat + 1 : Nat) : Int) := by omega
  refine ⟨b, nums.map V.int, rfl, SqT.of hb9, fun z => ?_, fun _ k4 nk4 => ?_⟩
  · have z1 := z.1
    rw [ep1, HT.sIx_nat] at z1
    omega
  have s10 : Same H9 (upd H9 k4 (.tup (cutV (nums.map V.int) (some (p + 1)) none))) := same_new nk4
  have hk4 : (upd H9 k4 (.tup (cutV (nums.map V.int) (some (p + 1)) none))) k4 = some (.tup ((nums.map V.int).drop (p.toNat + 1))) := by
    rw [upd_same, ep1, cut_from (by omega)]
  generalize upd H9 k4 (.tup (cutV (nums.map V.int) (some (p + 1)) none)) = H10 at s10 hk4
  refine catR (s10 _ _ hk3) hk4 (by rw [List.length_append, List.length_take, List.length_drop]; show _ + 1 + _ ≤ 5000; omega) fun k5 H11 s11 hk5 => ?_
  have s111 := s19.trans (s10.trans s11)
  have ha11 := s111 _ _ ha
  refine ⟨.ref a, rfl, a, _, 1, .ref c, rfl, rfl, SqT.of ha11, atI_nat (j := 1) rfl, by show 2 ≤ sizeLine; decide, fun k6 nk6 => ?_⟩
  have e12 : Same H11 (upd H11 k6 (.tup [.ref k5, .ref c])) := same_new nk6
  have s112 := s111.trans e12
  have r12 : Rp (upd H11 k6 (.tup [.ref k5, .ref c])) (.ref k6) (eW (nums.take p.toNat ++ [m7 + 1] ++ nums.drop (p.toNat + 1)) ts) := by
    refine rp_web2 upd_same ?_ (s112 _ _ hc) (hl.keep (same_t s112))
    rw [e12 _ _ hk5, List.map_append, List.map_append, List.map_take, List.map_drop]
    rfl
  have r7' := hr7.keep (same_t (s8.trans (e9.trans (s9.trans (s10.trans (s11.trans e12))))))
  refine ⟨r7, .ref k6, rfl, .inl ⟨_, it_eW 1 _ ts ?_ ht5, r7', r12⟩, fun H13 _ => hQ H13⟩
  rw [List.length_append, List.length_append, List.length_take, List.length_drop]
  show _ + 1 + _ ≤ 5000
  omega
end
end K16
namespace K16
open PySem PySem.Spec PyProof.Rows L2 Classical
section
variable {P : Program} {w : World} {K : PySem.W.Frag} {mg : Str → Option Value} {base : Heap}
/-- the loop over the ties -/
theorem lawDd (C : LawC P w K mg base) (B : Blt mg) (f : Addr) (cdv : Value) (A : Around) (outer : List Env) (s : Shared) (H : Hp) (E : XK) (hr : lawRoom f cdv A s) (Q : VK) (hQ : ∀ H', Q (.bl true) H') :
    ∃ t, PSs (lawX P w K mg base f cdv A outer s H E) (lawB 12) t ∧ ∀ (y0 y1 y5 y6 y7 y8 y9 y10 y11 y12 y13 y14 y15 y16 y17 y18 y19 y20 : Option V) (v : V) (p : Int) (H1 : Hp) (nums : List Int) (ts : List Tie),
      Rp H1 v (eW nums ts) → Drawn nums ts → p ∈ evb nums.length →
      t (lawD Q) [y0, y1, some v, some (.int nums.length), some (.int p), y5, y6, y7, y8, y9, y10, y11, y12, y13, y14, y15, y16, y17, y18, y19, y20] H1 := by
  obtain ⟨tE, hE, rE⟩ := lawE C B f cdv A outer s H E hr Q hQ
  refine ⟨_, pss_cons (ps_par (i := 16) (j := 17) rfl scLaw.nd rfl rfl (by decide) rfl rfl (pa_cons (pe_lst pa_nil) (pa_cons (pe_lst pa_nil) pa_nil)) (by rfl))
      (pss_cons (ps_for PassesOwn.never rfl (pi_tup (pe_ix ix_tup (pv 2) pe_int (fun _ _ => rfl))) (pg_name (i := 18) scLaw.nd rfl (.inr rfl))
        (pss_cons (ps_set (i := 11) scLaw.nd rfl (.inr rfl) (pe_tup (pa_cons (pe_ix ix_tup (pv 2) pe_int (fun _ _ => rfl)) (pa_cons (pe_tupleOf (by rfl) B.tuple (pe_lc (own := [("_law_one", 6)]) (g := gName 6) rfl scLaw.nd (pi_tup (pe_ix ix_tup (pv 2) pe_int (fun _ _ => rfl)))
            (blkOk_by (N := nLaw) (sc := defScope dLaw) (by decide +kernel)) (fun _ _ _ _ _ => pg_name (i := 6) scLaw.nd rfl (Or.inl rfl))
            (fun _ _ _ _ _ => pts_one (pt_cmpR (neS K hr.units) (pv 6) (pv 18) (nomark _))) (fun _ _ _ _ _ => pv 6))) pa_nil))))
        (pss_one (ps_if (pt_cmpR op_gt (pe_callB call_len_seq (by rfl) B.len PySem.boot_len (pa_cons (pcl C.pt hr (by decide) (by rfl) (pa_cons (pv 11) (pa_cons (pe_tupRg rfl (by rfl) B.tuple (prg_1 (by rfl) B.range (pv 3))) pa_nil))) pa_nil)) pe_int (nomark _))
          (pss_one (ps_expr (pe_bm PySem.F.plainAttrs_list PySem.F.slot_list_append PySem.F.type_list_append mt_append (pv 16) (pa_cons (pv 18) pa_nil))))
          (pss_one (ps_expr (pe_bm PySem.F.plainAttrs_list PySem.F.slot_list_append PySem.F.type_list_append mt_append (pv 17) (pa_cons (pe_tup (pa_cons (pv 18) (pa_cons (pe_tupleOf (by rfl) B.tuple (pe_lc (own := [("_law_one", 6)]) (g := gName 6) rfl scLaw.nd (pi_range1 (by rfl) B.range (pa_cons (pv 3) pa_nil))
            (blkOk_by (N := nLaw) (sc := defScope dLaw) (by decide +kernel)) (fun _ _ _ _ _ => pg_name (i := 6) scLaw.nd rfl (Or.inl rfl)) (fun _ _ _ _ _ => pts_nil)
            (fun _ _ _ _ _ => pe_callB (lenS K) (by rfl) B.len PySem.boot_len (pa_cons (pcl C.dp hr (by decide) (by rfl) (pa_cons (pv 11) (pa_cons (pe_tup (pa_cons (pv 6) pa_nil)) pa_nil))) pa_nil)))) pa_nil))) pa_nil))))))))
      hE), ?_⟩
  intro y0 y1 y5 y6 y7 y8 y9 y10 y11 y12 y13 y14 y15 y16 y17 y18 y19 y20 v p H1 nums ts hv dr hp
  have g := dr.good
  have h8 := g.n8
  have ht60 := g.t60
  obtain ⟨a, b, c, rfl, ha, hb, xs, hc, hl⟩ := hv.web
  refine ⟨Nat.zero_le _, fun oc noc => ⟨Nat.zero_le _, fun orr norr => ⟨.ref oc, .ref orr, rfl, ?_⟩⟩⟩
  have s2 : Same H1 (upd H1 oc (.lst [])) := same_new noc
  have s3 : Same (upd H1 oc (.lst [])) (upd (upd H1 oc (.lst [])) orr (.lst [])) := same_new norr
  have s13 := s2.trans s3
  have ncr : oc ≠ orr := ne_of_none (upd_same (H := H1) (a := oc) (o := .lst [])) norr
  have norr' : H1 orr = none := Same.free s2 norr
  have hoc := s3 _ _ (upd_same (H := H1) (a := oc) (o := .lst []))
  have horr : (upd (upd H1 oc (.lst [])) orr (.lst [])) orr = some (.lst []) := upd_same
  generalize upd (upd H1 oc (.lst [])) orr (.lst []) = H3 at s13 hoc horr
  have hxl : xs.length = ts.length := by rw [hl.len, List.length_map]
  refine ⟨.ref a, rfl, a, _, 1, .ref c, rfl, rfl, SqT.of (s13 _ _ ha), atI_nat (j := 1) rfl, c, rfl, ⟨_, SqT.of (s13 _ _ hc)⟩, for_it (walkT hxl) (fun i σ H' => ∃ y11 y18 cx rx, σ = [y0, y1, some (.ref a), some (.int nums.length), some (.int p), y5, y6, y7, y8, y9, y10, y11, y12, y13, y14, y15, some (.ref oc), some (.ref orr), y18, y19, y20] ∧ Same H1 H' ∧
      H' oc = some (.lst cx) ∧ RpL H' cx (((ts.take i).filter (brg ts nums.length)).map eP) ∧ H' orr = some (.lst rx) ∧ RpL H' rx (((ts.take i).filter fun t => !brg ts nums.length t).map (eC ts nums)))
    ⟨y11, y18, [], [], rfl, s13, hoc, .nil, horr, .nil⟩ (fun i σ H' _ ⟨_, _, _, _, _, sm, _⟩ => SqT.of (sm _ _ hc)) ?_ ?_⟩
  · rintro i x σ H2 H2' hi ⟨y11, y18, cx, rx, rfl, sm, hoc, rcx, horr, rrx⟩ ⟨rfl, hx⟩
    obtain ⟨d, hd, rtx⟩ := hl.get' hx
    rw [List.getElem?_map, List.getElem?_eq_getElem hi] at hd
    have hd' := Option.some.inj hd
    subst hd'
    have tk : ts.take (i + 1) = ts.take i ++ [ts[i]] := by
      rw [List.take_add_one, List.getElem?_eq_getElem hi]
      rfl
    have hcl : cx.length ≤ 60 := by
      rw [rcx.len, List.length_map]
      have e1 := List.length_filter_le (brg ts nums.length) (ts.take i)
      have e2 : (ts.take i).length ≤ ts.length := by
        rw [List.length_take]
        omega
      omega
    have hrl : rx.length ≤ 60 := by
      rw [rrx.len, List.length_map]
      have e1 := List.length_filter_le (fun t => !brg ts nums.length t) (ts.take i)
      have e2 : (ts.take i).length ≤ ts.length := by
        rw [List.length_take]
        omega
      omega
    revert tk rtx
    generalize ts[i] = t
    intro rtx tk
    have rx2 := rtx.keep (same_t sm)
    -- other
    refine ⟨.ref a, rfl, a, _, 0, .ref b, rfl, rfl, SqT.of (sm _ _ ha), atI_nat (j := 0) rfl, .ref a, rfl, a, _, 1, .ref c, rfl, rfl, SqT.of (sm _ _ ha), atI_nat (j := 1) rfl, c, rfl, ⟨_, SqT.of (sm _ _ hc)⟩, fun D nD => lcP ts eP (fun y => !decide (y = t)) id eP (walkT hxl) nD (fun H4 s4 => SqT.of (s4 _ _ (sm _ _ hc))) (by omega) (yAt (hl.keep (same_t sm))) ?_ ?_⟩
    · intro z y H4 R R' hz s4 ry hT hF
      refine ⟨rfl, y, rfl, x, rfl, ne_pairs K ry (rx2.keep (same_t s4)) ⟨_, rfl, ?_⟩⟩
      by_cases cc : z = t
      · rw [decide_eq_true cc]
        exact iteF (hF (by rw [decide_eq_true cc]; rfl) _ (Same.refl _))
      · rw [decide_eq_false cc]
        exact iteT ⟨y, rfl, hT (by rw [decide_eq_false cc]; rfl) _ _ (Same.refl _) ry⟩
    · intro H4 ys s4 hD rp
      rw [List.map_id] at rp
      refine .inl ⟨D, ys, rfl, SqL.of hD, fun u nu => ⟨by show 2 ≤ sizeLine; decide, fun r nr => ?_⟩⟩
      have t2 : Same H4 (upd H4 u (.tup ys)) := same_new nu
      have t3 : Same (upd H4 u (.tup ys)) (upd (upd H4 u (.tup ys)) r (.tup [.ref b, .ref u])) := same_new nr
      have sm4 := sm.trans s4
      have ro : Rp (upd (upd H4 u (.tup ys)) r (.tup [.ref b, .ref u])) (.ref r) (eW nums (less ts t)) :=
        rp_web2 upd_same (t3 _ _ (t2 _ _ (sm4 _ _ hb))) (t3 _ _ upd_same) ((rp.keep (same_t t2)).keep (same_t t3))
      have s5 := s4.trans (t2.trans t3)
      generalize upd (upd H4 u (.tup ys)) r (.tup [.ref b, .ref u]) = H5 at ro s5
      have sm5 := sm.trans s5
      -- len(parts(other, all)) > 1
      refine ⟨.ref r, rfl, .int nums.length, rfl, _, rfl, RgOk.of_le (by omega) (by omega) (by omega) (by omega), fun e6 ne6 => ?_⟩
      have t6 : Same H5 (upd H5 e6 (.tup (rgV 0 (nums.length : Int)))) := same_new ne6
      have he6 : (upd H5 e6 (.tup (rgV 0 (nums.length : Int)))) e6 = some (.tup ((evb nums.length).map V.int)) := by rw [upd_same, rgV_eq]
      generalize upd H5 e6 (.tup (rgV 0 (nums.length : Int))) = H6 at t6 he6
      refine ⟨.ref r, .ref e6, nums, less ts t, evb nums.length, rfl, ro.keep (same_t t6), Nat.le_trans less_len ht60, rp_tupI he6, evb_asc, by rw [evb_len]; exact h8, fun H7 o7 fx s7 no7 ho7 rfx => ?_⟩
      have s57 := t6.trans s7
      have sm7 := sm5.trans s57
      have s27 := s5.trans s57
      have hoc7 := s27 _ _ hoc
      have horr7 := s27 _ _ horr
      have rcx7 := rcx.keep (same_t s27)
      have rrx7 := rrx.keep (same_t s27)
      have rx7 := rx2.keep (same_t s27)
      refine ⟨o7, fx, rfl, .inl (SqL.of ho7), _, 1, rfl, rfl, _, rfl, ?_⟩
      have el := rfx.len
      rw [List.length_map] at el
      have eb : decide ((1 : Int) < (fx.length : Int)) = brg ts nums.length t := by
        unfold brg
        rw [el]
        exact decide_eq_decide.mpr (by omega)
      show if decide ((1 : Int) < (fx.length : Int)) = true then _ else _
      rw [eb]
      cases hbr : brg ts nums.length t with
      | true =>
        refine iteT ⟨.ref oc, rfl, .inl ⟨rfl, _, SqL.of hoc7⟩, x, rfl, oc, _, _, rfl, rfl, hoc7, small60 (by omega), ?_⟩
        have stl := sameT_lst (o := .lst (cx ++ [x])) hoc7
        refine ⟨_, _, cx ++ [x], rx, rfl, sOwn sm7 noc, upd_same, ?_, ?_, ?_⟩
        · rw [tk, List.filter_append, List.map_append, List.filter_cons_of_pos hbr]
          exact (rcx7.keep stl).append (RpL.one (rx7.keep stl))
        · rw [upd_ne ncr.symm]
          exact horr7
        · rw [tk, List.filter_append, List.filter_cons_of_neg (by rw [hbr]; exact Bool.false_ne_true), List.filter_nil, List.append_nil]
          exact rrx7.keep stl
      | false =>
        refine iteF ⟨.ref orr, rfl, .inl ⟨rfl, _, SqL.of horr7⟩, x, rfl, .int nums.length, rfl, _, rfl, by omega, by omega, fun D2 nD2 => ?_⟩
        have hcn := brg_conn hbr
        have ro7 := ro.keep (same_t s57)
        have hw : Walk (Itr 0 ((nums.length : Int)).toNat) (evb nums.length).length (fun _ => True) (YFn fun i => .int (0 + (i : Int))) := by
          rw [evb_len, Int.toNat_natCast]
          exact walk_range
        refine lcP (evb nums.length) Dt.i (fun _ => true) (fun z => ((deepL (adj (less ts t)) (oth nums.length z) nums z).length : Int)) Dt.i hw nD2 (fun _ _ => True.intro) (by rw [evb_len]; omega) yFn ?_ ?_
        · intro z y H8 R R' hz s8 ry hT hF
          cases ry
          refine ⟨rfl, iteT (B := True) ?_⟩
          refine ⟨.ref r, rfl, .int z, rfl, by show 1 ≤ sizeLine; decide, fun k nk => ⟨.ref r, .ref k, nums, less ts t, z, rfl, (ro7.keep (same_t s8)).keep (sameT_new nk), Nat.le_trans less_len ht60, h8, rp_tupI (ns := [z]) upd_same, hz, hcn, fun H9 o9 gx s9 no9 ho9 rgx => ?_⟩⟩
          refine ⟨o9, gx, rfl, .inl (SqL.of ho9), hT rfl _ _ ((same_new nk).trans s9) ?_⟩
          have el := rgx.len
          rw [List.length_map] at el
          rw [el]
          exact .i _
        · intro H8 zs s8 hD2 rz
          have ez : ((evb nums.length).filter fun _ => true) = evb nums.length := List.filter_eq_self.mpr fun _ _ => rfl
          rw [ez] at rz
          refine .inl ⟨D2, zs, rfl, SqL.of hD2, fun k nk => ⟨by show 2 ≤ sizeLine; decide, fun m nm => ?_⟩⟩
          have t8 : Same H8 (upd H8 k (.tup zs)) := same_new nk
          have t9 : Same (upd H8 k (.tup zs)) (upd (upd H8 k (.tup zs)) m (.tup [x, .ref k])) := same_new nm
          have s9 := s8.trans (t8.trans t9)
          have rm : Rp (upd (upd H8 k (.tup zs)) m (.tup [x, .ref k])) (.ref m) (eC ts nums t) :=
            .t upd_same (.cons (rx7.keep (same_t s9)) (.cons (.t (t9 _ _ upd_same) ((rz.keep (same_t t8)).keep (same_t t9))) .nil))
          have hoc9 := s9 _ _ hoc7
          have horr9 := s9 _ _ horr7
          have rcx9 := rcx7.keep (same_t s9)
          have rrx9 := rrx7.keep (same_t s9)
          have sm9 := sm7.trans s9
          generalize upd (upd H8 k (.tup zs)) m (.tup [x, .ref k]) = H9 at rm hoc9 horr9 rcx9 rrx9 sm9
          refine ⟨orr, _, _, rfl, rfl, horr9, small60 (by omega), ?_⟩
          have stl := sameT_lst (o := .lst (rx ++ [.ref m])) horr9
          refine ⟨_, _, cx, rx ++ [.ref m], rfl, sOwn sm9 norr', ?_, ?_, upd_same, ?_⟩
          · rw [upd_ne ncr]
            exact hoc9
          · rw [tk, List.filter_append, List.filter_cons_of_neg (by rw [hbr]; exact Bool.false_ne_true), List.filter_nil, List.append_nil]
            exact rcx9.keep stl
          · rw [tk, List.filter_append, List.map_append, List.filter_cons_of_pos (by rw [hbr]; rfl)]
            exact (rrx9.keep stl).append (RpL.one (rm.keep stl))
  · rintro σ H2 ⟨y11, y18, cx, rx, rfl, sm, hoc, rcx, horr, rrx⟩
    rw [List.take_length] at rcx rrx
    exact rE y0 y1 y5 y6 y7 y8 y9 y10 y11 y12 y13 y14 y15 y18 y19 y20 (.ref a) nums.length p oc orr H2 nums ts cx rx (hv.keep (same_t sm)) dr hp hoc rcx horr rrx
end
end K16
namespace K16
open PySem PySem.Spec PyProof.Rows L2 Classical
/-! ### pairs as a set's rows -/
def tieOf (l : List Int) : Tie := (l.getD 0 0, l.getD 1 0)
theorem pairs_ks {H : Hp} : ∀ {us : List Tie} {zs : List V}, RpL H zs (us.map eP) → ∃ ks : List (Addr × List Int), zs = ks.map (fun p => V.ref p.1) ∧ ks.map (fun p => p.2) = us.map (fun t => [t.1, t.2]) ∧ ∀ p ∈ ks, H p.1 = some (.tup (p.2.map V.int))
  | [], _, .nil => ⟨[], rfl, rfl, fun p h => by simp at h⟩
  | t :: us, _, .cons h1 h2 => by
    obtain ⟨ks, e1, e2, e3⟩ := pairs_ks h2
    obtain ⟨a, rfl, ha⟩ := h1.pair
    refine ⟨(a, [t.1, t.2]) :: ks, by rw [e1]; rfl, by rw [List.map_cons, List.map_cons, e2], fun p hp => ?_⟩
    rcases List.mem_cons.mp hp with e | e
    · subst e
      exact ha
    · exact e3 p e
theorem rpl_rows {H : Hp} : ∀ {L : List (Addr × List Int)}, (∀ p ∈ L, (∃ t : Tie, p.2 = [t.1, t.2]) ∧ H p.1 = some (.tup (p.2.map V.int))) → RpL H (L.map fun p => V.ref p.1) ((L.map fun p => tieOf p.2).map eP)
  | [], _ => .nil
  | p :: L, h => by
    obtain ⟨⟨t, e⟩, hp⟩ := h p List.mem_cons_self
    refine .cons ?_ (rpl_rows fun q hq => h q (List.mem_cons_of_mem _ hq))
    show Rp H (V.ref p.1) (eP (tieOf p.2))
    rw [e] at hp ⊢
    exact rp_pair hp
theorem nodup_le' {α : Type} : ∀ {l m : List α}, l.Nodup → (∀ x ∈ l, x ∈ m) → l.length ≤ m.length
  | [], _, _, _ => Nat.zero_le _
  | a :: l, m, h, s => by
    have h' := List.nodup_cons.mp h
    have ha := s a List.mem_cons_self
    have := nodup_le' (m := m.erase a) h'.2 fun x hx => by
      have ne : x ≠ a := fun e => h'.1 (e ▸ hx)
      exact (List.mem_erase_of_ne ne).mpr (s x (List.mem_cons_of_mem _ hx))
    rw [List.length_erase_of_mem ha] at this
    have : 0 < m.length := List.length_pos_of_mem ha
    simp only [List.length_cons]
    omega
section
variable {P : Program} {w : World} {K : PySem.W.Frag} {mg : Str → Option Value} {base : Heap}
/-- the told ties -/
theorem lawCc (C : LawC P w K mg base) (B : Blt mg) (f : Addr) (cdv : Value) (A : Around) (outer : List Env) (s : Shared) (H : Hp) (E : XK) (hr : lawRoom f cdv A s) (Q : VK) (hQ : ∀ H', Q (.bl true) H') :
    ∃ t, PSs (lawX P w K mg base f cdv A outer s H E) (lawB 9) t ∧ ∀ (y0 y1 y5 y6 y7 y8 y9 y10 y11 y12 y14 y15 y16 y17 y18 y19 y20 : Option V) (v : V) (p : Int) (H1 : Hp) (nums : List Int) (ts : List Tie),
      Rp H1 v (eW nums ts) → Drawn nums ts → p ∈ evb nums.length →
      t (lawD Q) [y0, y1, some v, some (.int nums.length), some (.int p), y5, y6, y7, y8, y9, y10, y11, y12, some (.int (((deepL (adj ts) (oth nums.length p) nums p).length - 1 : Nat) : Int)), y14, y15, y16, y17, y18, y19, y20] H1 := by
  obtain ⟨tD, hD, rD⟩ := lawDd C B f cdv A outer s H E hr Q hQ
  refine ⟨_, pss_cons (ps_asg (pe_tup (pa_cons (pcl C.sm hr (by decide) (by rfl) (pa_cons (pv 2) (pa_cons (pv 4) pa_nil))) (pa_cons (pcl C.dp hr (by decide) (by rfl) (pa_cons (pv 2) (pa_cons (pe_tup (pa_cons (pv 4) pa_nil)) pa_nil))) pa_nil)))
        (pg_tup rfl (pgs_cons (pg_name (i := 14) scLaw.nd rfl (.inl rfl)) (pgs_cons (pg_name (i := 15) scLaw.nd rfl (.inr rfl)) pgs_nil))))
      (pss_cons (ps_if (PW.pt (pw_or (pt_not (pt_val (pcl C.al hr (by decide) (by rfl) (pa_cons (pv 14) (pa_cons (pe_tupleOf (by rfl) B.tuple (pe_callB cr_sortedPO (by rfl) B.sorted (by decide +kernel) (pa_cons (pe_lc (own := [("_law_part", 20)]) (g := gName 20) rfl scLaw.nd (pi_list (pe_slice sl_list (pv 15) (po_some pe_int) po_none))
            (blkOk_by (N := nLaw) (sc := defScope dLaw) (by decide +kernel)) (fun _ _ _ _ _ => pg_name (i := 20) scLaw.nd rfl (Or.inl rfl)) (fun _ _ _ _ _ => pts_nil)
            (fun _ _ _ _ _ => pe_tup (pa_cons (pe_ix (ixT K) (pe_ix (ixL K) (pv 15) pe_int (fun _ _ => rfl)) pe_int (fun _ _ => rfl)) (pa_cons (pe_ix (ixT K) (pv 20) pe_int (fun _ _ => rfl)) pa_nil)))) pa_nil))) pa_nil)))))
          (pw_or1 (pt_cmpR op_ne (pe_callB call_len_seq (by rfl) B.len PySem.boot_len (pa_cons (pv 14) pa_nil)) (pv 13) (nomark _))))) (pss_one ps_never) pss_nil)
      (pss_cons (ps_if (pt_cmpR op_gt (pe_callB call_len_seq (by rfl) B.len PySem.boot_len (pa_cons (pcl C.dp hr (by decide) (by rfl) (pa_cons (pe_tup (pa_cons (pe_ix ix_tup (pv 2) pe_int (fun _ _ => rfl)) (pa_cons (pe_tupleOf (by rfl) B.tuple (pe_callB (cr_sortedT rfl) (by rfl) B.sorted (by decide +kernel) (pa_cons (pe_callTy (cr_setOfTT rfl hr.units) (by rfl) B.set (by decide +kernel)
            (pa_cons (pe_op op_catA (pe_ix ix_tup (pv 2) pe_int (fun _ _ => rfl)) (pv 14)) pa_nil)) pa_nil))) pa_nil))) (pa_cons (pe_tup (pa_cons (pv 4) pa_nil)) pa_nil))) pa_nil)) pe_int (nomark _)) (pss_one ps_never) pss_nil)
      hD)), ?_⟩
  intro y0 y1 y5 y6 y7 y8 y9 y10 y11 y12 y14 y15 y16 y17 y18 y19 y20 v p H1 nums ts hv dr hp
  have g := dr.good
  have h8 := g.n8
  have ht60 := g.t60
  have hDl : (deepL (adj ts) (oth nums.length p) nums p).length ≤ 8 := deepL_len8 h8
  have htl := told_len (ts := ts) (L := oth nums.length p) (nums := nums) (p := p)
  obtain ⟨a, b, c, rfl, ha, hb, xs, hc, hl⟩ := hv.web
  -- told, deep_here
  refine ⟨.ref a, rfl, .int p, rfl, .ref a, nums, ts, p, rfl, hv, g, hp, fun H2 r2 s2 hr2 => ⟨.ref a, rfl, .int p, rfl, by show 1 ≤ sizeLine; decide, fun k nk => ?_⟩⟩
  refine ⟨.ref a, .ref k, nums, ts, p, rfl, (hv.keep (same_t s2)).keep (sameT_new nk), ht60, h8, rp_tupI (ns := [p]) upd_same, hp, g.conn, fun H3 dh ys s3 ndh hdh rys => ⟨by show 2 ≤ sizeLine; decide, fun q nq => ?_⟩⟩
  have e2 := same_new (o := .tup [.int p]) nk
  have e4 := same_new (o := .tup [r2, .ref dh]) nq
  have s14 := s2.trans (e2.trans (s3.trans e4))
  have hdh4 := e4 _ _ hdh
  have rys4 := rys.keep (same_t e4)
  have r24 := hr2.keep (same_t (e2.trans (s3.trans e4)))
  have hq : (upd H3 q (.tup [r2, .ref dh])) q = some (.tup [r2, .ref dh]) := upd_same
  generalize upd H3 q (.tup [r2, .ref dh]) = H4 at s14 hdh4 rys4 r24 hq
  refine ⟨q, _, rfl, SqT.of hq, rfl, r2, _, rfl, .ref dh, [], rfl, rfl, ?_⟩
  -- alike(told, ..)
  refine ⟨r2, rfl, .ref dh, rfl, 1, rfl, dh, ys, rfl, SqL.of hdh4, fun S nS => ?_⟩
  have s5 : Same H4 (upd H4 S (.lst (cutV ys (some 1) none))) := same_new nS
  have hS : (upd H4 S (.lst (cutV ys (some 1) none))) S = some (.lst ys.tail) := by
    rw [upd_same, cut_from1]
  have hdh5 := s5 _ _ hdh4
  have rp5 := rys4.keep (same_t s5)
  have sm5 := s14.trans s5
  have r25 := r24.keep (same_t s5)
  generalize upd H4 S (.lst (cutV ys (some 1) none)) = H5 at hS hdh5 rp5 sm5 r25
  have hmem : ∀ d ∈ deepL (adj ts) (oth nums.length p) nums p, d ∈ parts (adj ts) (oth nums.length p) := fun d hd => (List.mem_filter.mp hd).1
  have hasc := told_asc (ts := ts) (nums := nums) (p := p) (L := oth nums.length p) oth_asc
  have hdeep := told_deep (ts := ts) (nums := nums) (p := p) (L := oth nums.length p) oth_asc
  have htold : told (deepL (adj ts) (oth nums.length p) nums p) = (deepL (adj ts) (oth nums.length p) nums p).tail.map fun d => (leadOf ((deepL (adj ts) (oth nums.length p) nums p).headD []), leadOf d) := rfl
  have hbnd : ∀ t ∈ told (deepL (adj ts) (oth nums.length p) nums p), 0 ≤ t.1 ∧ t.1 < 64 ∧ 0 ≤ t.2 ∧ t.2 < 64 := fun t ht => by
    obtain ⟨_, h2, h3, _⟩ := told_mem oth_asc ht
    have k1 := (mem_oth.mp h2).1
    have k2 := (mem_oth.mp h3).1
    omega
  revert hasc htold hDl htl hdeep hbnd r25
  generalize htd : told (deepL (adj ts) (oth nums.length p) nums p) = td
  generalize hds : deepL (adj ts) (oth nums.length p) nums p = ds at rp5 hmem
  intro hDl htl r25 hasc hdeep htold hbnd
  have rt : RpL H5 ys.tail (ds.tail.map eT) := by
    cases rp5' : ds with
    | nil =>
      rw [rp5'] at rp5
      cases rp5
      exact .nil
    | cons d ds' =>
      rw [rp5'] at rp5
      cases rp5 with
      | cons _ h2 => exact h2
  refine ⟨S, rfl, ⟨_, SqL.of hS⟩, fun T nT => lcP ds.tail eT (fun _ => true) (fun d => (leadOf (ds.headD []), leadOf d)) eP (walkL (by rw [rt.len, List.length_map])) nT (fun H6 s6 => SqL.of (s6 _ _ hS)) (by rw [List.length_tail]; omega) (yAt rt) ?_ ?_⟩
  · intro d y H6 R R' hd s6 ry hT hF
    refine ⟨rfl, iteT (B := True) ?_⟩
    cases ds with
    | nil => simp at hd
    | cons d0 ds' =>
      have hd' : d ∈ ds' := hd
      obtain ⟨y0, hy0, r0⟩ := rp5.get (i := 0) (d := eT d0) rfl
      obtain ⟨a0, rfl, ha0⟩ := (r0.keep (same_t s6)).tupI
      obtain ⟨a1, rfl, ha1⟩ := ry.tupI
      have f0 := (part_of g.conn hp (hmem d0 List.mem_cons_self)).pos
      have f1 := (part_of g.conn hp (hmem d (List.mem_cons_of_mem _ hd'))).pos
      have l0 : atI (d0.map V.int) 0 = some (.int (leadOf d0)) := by
        cases d0 with
        | nil => simp at f0
        | cons x r => exact atI_nat (j := 0) rfl
      have l1 : atI (d.map V.int) 0 = some (.int (leadOf d)) := by
        cases d with
        | nil => simp at f1
        | cons x r => exact atI_nat (j := 0) rfl
      refine ⟨.ref dh, rfl, dh, _, 0, .ref a0, rfl, rfl, SqL.of (s6 _ _ hdh5), atI_nat (j := 0) hy0, a0, _, 0, _, rfl, rfl, SqT.of ha0, l0, .ref a1, rfl, a1, _, 0, _, rfl, rfl, SqT.of ha1, l1, by show 2 ≤ sizeLine; decide, fun u nu => ?_⟩
      exact hT rfl _ _ (same_new nu) (rp_pair upd_same)
  · intro H6 zs s6 hT rz
    have eqs : (ds.tail.filter fun _ => true).map (fun d => (leadOf (ds.headD []), leadOf d)) = td := by
      rw [htold]
      congr 1
      exact List.filter_eq_self.mpr fun _ _ => rfl
    rw [eqs] at rz
    have sm6 := sm5.trans s6
    refine ⟨T, zs, kOf H6, rfl, SqL.of hT, (rpl_kOf rz).2, fun ws so hws hwb nso => ?_⟩
    obtain ⟨rq, hq1, hq2⟩ := sorted_vals_of rz hws hwb
    rw [sorted_same hasc hq1 hq2] at rq
    refine .inl ⟨so, ws, rfl, SqL.of upd_same, fun tt ntt => ?_⟩
    have e7 := same_new (o := .lst ws) nso
    have e8 := same_new (o := .tup ws) ntt
    have r26 := r25.keep (same_t (s6.trans (e7.trans e8)))
    have rtt : Rp (upd (upd H6 so (.lst ws)) tt (.tup ws)) (.ref tt) (eTs td) := Rp.new ntt (rq.keep (same_t e7))
    have sm8 := sm6.trans (e7.trans e8)
    generalize upd (upd H6 so (.lst ws)) tt (.tup ws) = H8 at r26 rtt sm8
    have htd8 : td.length ≤ 8 := by omega
    refine ⟨r2, .ref tt, rfl, .inl ⟨_, it_eTs 2 td (by omega), r26, rtt⟩, fun H9 s9 => ⟨true, rfl, iteF ?_⟩⟩
    -- len(told) != found
    have r29 := r26.keep (same_t s9)
    have sm9 := sm8.trans s9
    obtain ⟨tl, vs9, rfl, htl9, hvs9⟩ := r29.tup
    have evl : vs9.length = td.length := by rw [hvs9.len, List.length_map]
    refine ⟨.ref tl, rfl, tl, vs9, rfl, .inr (SqT.of htl9), .int ((ds.length - 1 : Nat) : Int), rfl, rfl, _, rfl, iteNS (by rw [evl, htl]) ?_⟩
    -- the deep parts with the told ties
    have ha9 := sm9 _ _ ha
    have hb9 := sm9 _ _ hb
    have hc9 := sm9 _ _ hc
    refine ⟨.ref a, rfl, a, _, 0, .ref b, rfl, rfl, SqT.of ha9, atI_nat (j := 0) rfl, .ref a, rfl, a, _, 1, .ref c, rfl, rfl, SqT.of ha9, atI_nat (j := 1) rfl, .ref tl, rfl, ?_⟩
    have hxl : xs.length = ts.length := by rw [hl.len, List.length_map]
    refine catR hc9 htl9 (by omega) fun c3 H10 s10 hc3 => ?_
    have sm10 := sm9.trans s10
    have rus : RpL H10 (xs ++ vs9) ((ts ++ td).map eP) := by
      rw [List.map_append]
      exact (hl.keep (same_t sm10)).append (hvs9.keep (same_t s10))
    obtain ⟨ks, ek1, ek2, ek3⟩ := pairs_ks rus
    have hkl : ks.length = ts.length + td.length := by
      have e := congrArg List.length ek2
      rw [List.length_map, List.length_map, List.length_append] at e
      exact e
    have htt10 := dr.t10
    refine ⟨c3, ks, rfl, by rw [← ek1]; exact SqT.of hc3, fun p hp => SqT.of (ek3 p hp), by omega, fun aS L naS hL1 hL2 => ?_⟩
    have e11 : Same H10 (upd H10 aS (SetTO (lawX P w K mg base f cdv A outer s H E).prog (lawX P w K mg base f cdv A outer s H E).w aS L)) := same_new naS
    have hks : ∀ p ∈ ks, ∃ t ∈ ts ++ td, p.2 = [t.1, t.2] := fun p hp => by
      have h1 : p.2 ∈ ks.map (fun p => p.2) := List.mem_map.mpr ⟨p, hp, rfl⟩
      rw [ek2] at h1
      obtain ⟨t, ht, e⟩ := List.mem_map.mp h1
      exact ⟨t, ht, e.symm⟩
    have hall : ∀ t ∈ ts ++ td, 0 ≤ t.1 ∧ t.1 < 64 ∧ 0 ≤ t.2 ∧ t.2 < 64 := fun t ht => by
      rcases List.mem_append.mp ht with h | h
      · have := g.ties t h
        omega
      · exact hbnd t h
    refine ⟨aS, L, 2, 64, rfl, upd_same, fun p hp => SqT.of (e11 _ _ (ek3 p (hL1 p hp))), by decide, fun p hp => ?_, fun L' so2 hp2 hnd2 hlt2 hpw2 nso2 => ?_⟩
    · obtain ⟨t, ht, e⟩ := hks p (hL1 p hp)
      have hb := hall t ht
      rw [e]
      refine ⟨rfl, fun m hm => ?_⟩
      rcases List.mem_cons.mp hm with k | k
      · subst k
        exact ⟨hb.1, hb.2.1⟩
      · rw [List.mem_singleton.mp k]
        exact ⟨hb.2.2.1, hb.2.2.2⟩
    · refine .inl ⟨so2, _, rfl, SqL.of upd_same, fun tt2 ntt2 => ⟨by show 2 ≤ sizeLine; decide, fun w2 nw2 => ⟨.int p, rfl, by show 1 ≤ sizeLine; decide, fun pp npp => ?_⟩⟩⟩
      have e12 := same_new (o := .lst (L'.map fun q => V.ref q.1)) nso2
      have e13 := same_new (o := .tup (L'.map fun q => V.ref q.1)) ntt2
      have e14 := same_new (o := .tup [.ref b, .ref tt2]) nw2
      have e15 := same_new (o := .tup [.int p]) npp
      have hrows : RpL H10 (L'.map fun p => V.ref p.1) ((L'.map fun p => tieOf p.2).map eP) := rpl_rows fun p hp => by
        have hpk := hL1 p (hp2.mem_iff.mp hp)
        obtain ⟨t, ht, e⟩ := hks p hpk
        exact ⟨⟨t, e⟩, ek3 p hpk⟩
      have hmemu : ∀ t, t ∈ L'.map (fun p => tieOf p.2) ↔ t ∈ ts ++ td := fun t => by
        constructor
        · intro ht
          obtain ⟨p, hp, rfl⟩ := List.mem_map.mp ht
          obtain ⟨t', ht', e⟩ := hks p (hL1 p (hp2.mem_iff.mp hp))
          rw [e]
          exact ht'
        · intro ht
          have h1 : [t.1, t.2] ∈ ks.map (fun p => p.2) := by
            rw [ek2]
            exact List.mem_map.mpr ⟨t, ht, rfl⟩
          obtain ⟨p, hp, e⟩ := List.mem_map.mp h1
          obtain ⟨p', hp', e'⟩ := List.mem_map.mp (hL2 p hp)
          refine List.mem_map.mpr ⟨p', hp2.mem_iff.mpr hp', ?_⟩
          rw [e', e]
          rfl
      have hul : (L'.map fun p => tieOf p.2).length ≤ 60 := by
        have h1 := nodup_le' (m := (ts ++ td).map fun t => [t.1, t.2]) hnd2 fun l hl => by
          obtain ⟨p, hp, rfl⟩ := List.mem_map.mp hl
          obtain ⟨t, ht, e⟩ := hks p (hL1 p (hp2.mem_iff.mp hp))
          exact List.mem_map.mpr ⟨t, ht, e.symm⟩
        rw [List.length_map, List.length_map, List.length_append] at h1
        rw [List.length_map]
        omega
      have eadj : adj (L'.map fun p => tieOf p.2) = adj (ts ++ td) := adj_congr hmemu
      have s1014 := e11.trans (e12.trans (e13.trans (e14.trans e15)))
      have rw2 : Rp _ (.ref w2) (eW nums (L'.map fun p => tieOf p.2)) :=
        (rp_web2 (upd_same) ((e11.trans (e12.trans (e13.trans e14))) _ _ (s10 _ _ hb9)) (e14 _ _ upd_same) (hrows.keep (same_t (e11.trans (e12.trans (e13.trans e14)))))).keep (same_t e15)
      refine ⟨.ref w2, .ref pp, nums, _, p, rfl, rw2, hul, h8, rp_tupI (ns := [p]) upd_same, hp, ?_, fun H16 o16 fx s16 no16 ho16 rfx => ⟨o16, fx, rfl, .inl (SqL.of ho16), _, 1, rfl, rfl, false, congrArg V.bl (decide_eq_false ?_), iteF ?_⟩⟩
      · rw [eadj]
        exact conn_mono (fun _ _ h => adj_app_iff.mpr (.inl h)) g.conn
      · have el := rfx.len
        rw [List.length_map, eadj] at el
        rw [el]
        omega
      · have sm16 := sm10.trans (s1014.trans s16)
        exact rD y0 y1 y5 y6 y7 y8 y9 y10 y11 y12 _ _ _ y16 y17 y18 y19 y20 (.ref a) p H16 nums ts (hv.keep (same_t sm16)) dr hp
end
end K16
namespace K16
open PySem PySem.Spec PyProof.Rows L2 Classical
/-! ### the lots of free ties -/
theorem flatMap_len {α β : Type} {f : α → List β} {m : Nat} : ∀ {l : List α}, (∀ x ∈ l, (f x).length ≤ m) → (l.flatMap f).length ≤ l.length * m
  | [], _ => Nat.zero_le _
  | a :: l, h => by
    have h1 := h a List.mem_cons_self
    have h2 := flatMap_len fun x hx => h x (List.mem_cons_of_mem a hx)
    rw [List.flatMap_cons, List.length_append, List.length_cons, Nat.add_mul]
    omega
theorem nextLots_len {free : List Tie} {lots : List (List Tie)} : (nextLots free lots).length ≤ lots.length * free.length := by
  refine flatMap_len fun lot _ => ?_
  rw [List.length_map]
  exact List.length_filter_le _ _
theorem freeRow_len {ts : List Tie} {n : Nat} {a : Int} (h : 0 ≤ a) : (freeRow ts n a).length ≤ n := by
  unfold freeRow
  rw [List.length_map]
  refine Nat.le_trans (List.length_filter_le _ _) ?_
  rw [rgI_len]
  omega
theorem freeS_len {ts : List Tie} {n : Nat} (h : n ≤ 7) : (freeS ts n).length ≤ 49 := by
  have h1 : (freeS ts n).length ≤ (evb n).length * 7 := flatMap_len fun a ha => Nat.le_trans (freeRow_len (mem_evb.mp ha).1) h
  rw [evb_len] at h1
  omega
noncomputable def lotsN (free : List Tie) : Nat → List (List Tie)
  | 0 => lots0
  | k + 1 => nextLots free (lotsN free k)
noncomputable def dueN (dl : List Tie → Nat) (free : List Tie) : Nat → Option Int
  | 0 => none
  | k + 1 => (lotsN free k).foldl (dueStep dl k) (dueN dl free k)
theorem due_three (dl : List Tie → Nat) (free : List Tie) : dueN dl free 3 = due3 dl free := rfl
theorem lotsN_mem {free : List Tie} : ∀ (k : Nat) (lot : List Tie), lot ∈ lotsN free k → lot.length = k ∧ ∀ t ∈ lot, t ∈ free
  | 0, lot, h => by
    have e : lot = [] := List.mem_singleton.mp h
    subst e
    exact ⟨rfl, fun t ht => by simp at ht⟩
  | k + 1, lot, h => by
    obtain ⟨l, hl, t, ht, _, rfl⟩ := mem_nextLots.mp h
    obtain ⟨h1, h2⟩ := lotsN_mem k l hl
    refine ⟨by rw [List.length_append, h1]; rfl, fun s hs => ?_⟩
    rcases List.mem_append.mp hs with q | q
    · exact h2 s q
    · rw [List.mem_singleton.mp q]
      exact ht
theorem lotsN_len {free : List Tie} (hf : free.length ≤ 49) {k : Nat} (hk : k < 3) : (lotsN free k).length ≤ 2401 := by
  have h0 : (lotsN free 0).length = 1 := rfl
  have h1 : (lotsN free 1).length ≤ (lotsN free 0).length * free.length := nextLots_len
  have h2 : (lotsN free 2).length ≤ (lotsN free 1).length * free.length := nextLots_len
  rw [h0] at h1
  match k, hk with
  | 0, _ => omega
  | 1, _ => omega
  | 2, _ => exact Nat.le_trans h2 (Nat.mul_le_mul (show (lotsN free 1).length ≤ 49 by omega) hf)
def encDue : Option Int → V
  | none => .non
  | some k => .int k
theorem rpl_snoc {H : Hp} {z : Tie} : ∀ {l : List Tie} {us : List V}, RpL H us ((l ++ [z]).map eP) → ∃ us1 v, us = us1 ++ [v] ∧ Rp H v (eP z)
  | [], _, .cons h .nil => ⟨[], _, rfl, h⟩
  | t :: l, _, .cons h1 h2 => by
    obtain ⟨us1, v, e, hv⟩ := rpl_snoc h2
    exact ⟨_ :: us1, v, by rw [e]; rfl, hv⟩
theorem eq_none (K : PySem.W.Frag) {H : Hp} {x : V} {q : Addr} {lot : List Tie} {Q : VK} (hx : Rp H x (eTs lot)) (nq : H q = none) (h : Q (.bl (decide (lot = []))) (upd H q (.tup []))) : rEqD K x (.ref q) (upd H q (.tup [])) Q := by
  have hy : Rp (upd H q (.tup [])) (.ref q) (eTs []) := Rp.new nq .nil
  refine ⟨_, _, Rp.dp K _ _ (hx.keep (sameT_new nq)), Rp.dp K _ _ hy, shaped_toP (dep_eTs 0 lot) (by decide), shaped_toP (dep_eTs 0 []) (by decide), ?_⟩
  have e : PyData.eqv (toP (eTs lot)) (toP (eTs [])) = decide (lot = []) := by
    have k := eqv_toP (eTs lot) (eTs [])
    by_cases c : lot = []
    · rw [decide_eq_true c]
      exact k.mpr (by rw [c])
    · rw [decide_eq_false c]
      cases hb : PyData.eqv (toP (eTs lot)) (toP (eTs [])) with
      | false => rfl
      | true =>
        refine absurd ?_ c
        have e1 := k.mp hb
        cases lot with
        | nil => rfl
        | cons t l => cases e1
  rw [e]
  exact h
theorem sizeLine_big {n : Nat} (h : n ≤ 1000000) : n ≤ sizeLine := by
  rw [sizeLine_eq]
  omega
section
variable {P : Program} {w : World} {K : PySem.W.Frag} {mg : Str → Option Value} {base : Heap}
/-- the three rounds -/
theorem lawBb (C : LawC P w K mg base) (B : Blt mg) (f : Addr) (cdv : Value) (A : Around) (outer : List Env) (s : Shared) (H : Hp) (E : XK) (hr : lawRoom f cdv A s) (Q : VK) (hQ : ∀ H', Q (.bl true) H') :
    ∃ t, PSs (lawX P w K mg base f cdv A outer s H E) (lawB 5) t ∧ ∀ (y0 y1 y6 y7 y8 y9 y10 y11 y12 y13 y14 y15 y16 y17 y18 y19 y20 : Option V) (v : V) (p : Int) (fr : Addr) (fx : List V) (H1 : Hp) (nums : List Int) (ts : List Tie),
      Rp H1 v (eW nums ts) → Drawn nums ts → p ∈ evb nums.length → H1 fr = some (.lst fx) → RpL H1 fx ((freeS ts nums.length).map eP) →
      t (lawD Q) [y0, y1, some v, some (.int nums.length), some (.int p), some (.ref fr), y6, y7, y8, y9, y10, y11, y12, y13, y14, y15, y16, y17, y18, y19, y20] H1 := by
  obtain ⟨tC, hC, rC⟩ := lawCc C B f cdv A outer s H E hr Q hQ
  refine ⟨_, pss_cons (ps_par (i := 7) (j := 8) rfl scLaw.nd rfl rfl (by decide) rfl rfl (pa_cons pe_non (pa_cons (pe_lst (pa_cons (pe_tup pa_nil) pa_nil)) pa_nil)) (by rfl))
      (pss_cons (ps_for PassesOwn.never rfl (pi_range1 (by rfl) B.range (pa_cons pe_int pa_nil)) (pg_name (i := 9) scLaw.nd rfl (.inl rfl))
        (pss_cons (ps_for PassesOwn.never rfl (pi_list (pv 8)) (pg_name (i := 10) scLaw.nd rfl (.inr rfl))
          (pss_cons (ps_set (i := 11) scLaw.nd rfl (.inr rfl) (pe_tup (pa_cons (pe_ix ix_tup (pv 2) pe_int (fun _ _ => rfl)) (pa_cons (pe_tupleOf (by rfl) B.tuple (pe_callB cr_sortedPT (by rfl) B.sorted (by decide +kernel) (pa_cons (pe_op op_catA (pe_ix ix_tup (pv 2) pe_int (fun _ _ => rfl)) (pv 10)) pa_nil))) pa_nil))))
          (pss_one (ps_if (PW.pt (pw_and (pt_cmpR op_isN (pv 7) pe_non (nomark _)) (pw_and1 (pt_cmpR op_le (pe_callB call_len_seq (by rfl) B.len PySem.boot_len (pa_cons (pcl C.dp hr (by decide) (by rfl) (pa_cons (pv 11) (pa_cons (pe_tup (pa_cons (pv 4) pa_nil)) pa_nil))) pa_nil)) pe_int (nomark _)))))
            (pss_one (ps_set (i := 7) scLaw.nd rfl (.inl rfl) (pv 9))) pss_nil))))
        (pss_cons (ps_set (i := 12) scLaw.nd rfl (.inl rfl) (pe_lst pa_nil))
        (pss_cons (ps_for PassesOwn.never rfl (pi_list (pv 8)) (pg_name (i := 10) scLaw.nd rfl (.inr rfl))
          (pss_one (ps_set (i := 12) scLaw.nd rfl (.inl rfl) (pe_op op_cat (pv 12) (pe_lc (own := [("_law_tie", 18)]) (g := gName 18) rfl scLaw.nd (pi_list (pv 5))
            (blkOk_by (N := nLaw) (sc := defScope dLaw) (by decide +kernel)) (fun _ _ _ _ _ => pg_name (i := 18) scLaw.nd rfl (Or.inl rfl))
            (fun _ _ _ _ _ => pts_one (PW.pt (pw_or (pt_cmpR (eqS K hr.units) (pv 10) (pe_tup pa_nil) (nomark _)) (pw_or1 (pt_cmpR (gtS K (Nat.lt_of_le_of_lt (Nat.le_add_right _ 64) hr.units)) (pv 18) (pe_ix (ixT K) (pv 10) (pe_un un_neg pe_int) (fun _ _ => rfl)) (nomark _))))))
            (fun _ _ _ _ _ => pe_op (catS K) (pv 10) (pe_tup (pa_cons (pv 18) pa_nil))))))))
        (pss_one (ps_set (i := 8) scLaw.nd rfl (.inl rfl) (pv 12)))))))
      (pss_cons (ps_set (i := 13) scLaw.nd rfl (.inl rfl) (pcl C.fw hr (by decide) (by rfl) (pa_cons (pv 2) (pa_cons (pv 4) pa_nil))))
      (pss_cons (ps_if (PW.pt (pw_or (PW.pt (pw_and (pt_cmpR op_notN (pv 7) pe_non (nomark _)) (pw_and1 (pt_not (pt_val (pcl C.al hr (by decide) (by rfl) (pa_cons (pv 13) (pa_cons (pv 7) pa_nil))))))))
          (pw_or1 (PW.pt (pw_and (pt_cmpR op_isN (pv 7) pe_non (nomark _)) (pw_and1 (pt_cmpR op_lt (pv 13) pe_int (nomark _)))))))) (pss_one ps_never) pss_nil)
      hC))), ?_⟩
  intro y0 y1 y6 y7 y8 y9 y10 y11 y12 y13 y14 y15 y16 y17 y18 y19 y20 v p fr fx H1 nums ts hv dr hp hfr rfx
  have g := dr.good
  have h8 := g.n8
  have h7 := dr.n7
  have ht10 := dr.t10
  have hf49 := freeS_len (ts := ts) h7
  have hfl : fx.length = (freeS ts nums.length).length := by rw [rfx.len, List.length_map]
  obtain ⟨a, b, c, rfl, ha, hb, xs, hc, hl⟩ := hv.web
  have hxl : xs.length = ts.length := by rw [hl.len, List.length_map]
  have hdue := due_is (ts := ts) (n := nums.length) (nums := nums) (p := p)
  have hsub : ∀ t ∈ freeS ts nums.length, 0 ≤ t.1 ∧ t.1 < t.2 ∧ t.2 < (nums.length : Int) ∧ t ∉ ts := fun t ht => mem_free.mp ht
  revert hf49 hdue hsub rfx hfl
  generalize hfree : freeS ts nums.length = free
  generalize hdl : (fun lot : List Tie => (deepL (adj (ts ++ lot)) (oth nums.length p) nums p).length) = dl
  intro rfx hf49 hfl hdue hsub
  refine ⟨Nat.zero_le _, fun et net => ⟨by show 1 ≤ sizeLine; decide, fun L0 nL0 => ⟨.non, .ref L0, rfl, ?_⟩⟩⟩
  have s2 : Same H1 (upd H1 et (.tup [])) := same_new net
  have s3 : Same (upd H1 et (.tup [])) (upd (upd H1 et (.tup [])) L0 (.lst [.ref et])) := same_new nL0
  have s13 := s2.trans s3
  have hL0 : (upd (upd H1 et (.tup [])) L0 (.lst [.ref et])) L0 = some (.lst [.ref et]) := upd_same
  have rL0 : RpL (upd (upd H1 et (.tup [])) L0 (.lst [.ref et])) [.ref et] ((lotsN free 0).map eTs) := .cons (.t (s3 _ _ upd_same) .nil) .nil
  generalize upd (upd H1 et (.tup [])) L0 (.lst [.ref et]) = H3 at s13 hL0 rL0
  have hw3 : Walk (Itr 0 ((3 : Int)).toNat) 3 (fun _ => True) (YFn fun i => .int (0 + (i : Int))) := walk_range
  refine ⟨_, rfl, by decide, by decide, for_it hw3 (fun k σ H' => ∃ y9 y10 y11 y12 L lx, σ = [y0, y1, some (.ref a), some (.int nums.length), some (.int p), some (.ref fr), y6, some (encDue (dueN dl free k)), some (.ref L), y9, y10, y11, y12, y13, y14, y15, y16, y17, y18, y19, y20] ∧ Same H1 H' ∧
      H' L = some (.lst lx) ∧ RpL H' lx ((lotsN free k).map eTs))
    ⟨y9, y10, y11, y12, L0, _, rfl, s13, hL0, rL0⟩ (fun _ _ _ _ _ => True.intro) ?_ ?_⟩
  · rintro k x σ H2 H2' hk ⟨y9, y10, y11, y12, L, lx, rfl, sm, hL, rlx⟩ ⟨rfl, rfl⟩
    have hlen := lotsN_len hf49 hk
    have hlm := lotsN_mem (free := free) k
    have hlk : lotsN free (k + 1) = nextLots free (lotsN free k) := rfl
    have hdk : dueN dl free (k + 1) = (lotsN free k).foldl (dueStep dl k) (dueN dl free k) := rfl
    have ek : (0 : Int) + (k : Int) = (k : Int) := Int.zero_add _
    rw [hlk, hdk]
    revert hlen hlm rlx
    generalize lotsN free k = lots
    generalize dueN dl free k = d0
    intro rlx hlen hlm
    have hlxl : lx.length = lots.length := by rw [rlx.len, List.length_map]
    refine ⟨.ref L, rfl, L, rfl, ⟨_, SqL.of hL⟩, for_it (walkL hlxl) (fun i σ H' => ∃ y10 y11, σ = [y0, y1, some (.ref a), some (.int nums.length), some (.int p), some (.ref fr), y6, some (encDue ((lots.take i).foldl (dueStep dl k) d0)), some (.ref L), some (.int (0 + (k : Int))), y10, y11, y12, y13, y14, y15, y16, y17, y18, y19, y20] ∧ Same H2' H')
      ⟨y10, y11, rfl, Same.refl _⟩ (fun i σ H' _ ⟨_, _, _, s⟩ => SqL.of (s _ _ hL)) ?_ ?_⟩
    · rintro i x σ H4 H4' hi ⟨y10, y11, rfl, sm4⟩ ⟨rfl, hx⟩
      obtain ⟨d, hd, rx⟩ := rlx.get' hx
      rw [List.getElem?_map, List.getElem?_eq_getElem hi] at hd
      have hd' := Option.some.inj hd
      subst hd'
      have tk : (lots.take (i + 1)).foldl (dueStep dl k) d0 = dueStep dl k ((lots.take i).foldl (dueStep dl k) d0) lots[i] := by
        rw [List.take_add_one, List.getElem?_eq_getElem hi, List.foldl_append]
        rfl
      have hlot := hlm lots[i] (List.getElem_mem hi)
      rw [tk]
      revert rx hlot
      generalize lots[i] = lot
      generalize (lots.take i).foldl (dueStep dl k) d0 = d
      intro rx hlot
      have smA := sm.trans sm4
      obtain ⟨l0, us, rfl, hl0, rus⟩ := (rx.keep (same_t sm4)).tup
      have ha4 := smA _ _ ha
      have hb4 := smA _ _ hb
      have hc4 := smA _ _ hc
      have hul : us.length = k := by rw [rus.len, List.length_map, hlot.1]
      refine ⟨.ref a, rfl, a, _, 0, .ref b, rfl, rfl, SqT.of ha4, atI_nat (j := 0) rfl, .ref a, rfl, a, _, 1, .ref c, rfl, rfl, SqT.of ha4, atI_nat (j := 1) rfl, .ref l0, rfl, ?_⟩
      refine catR hc4 hl0 (by omega) fun c3 H5 s5 hc3 => ?_
      have rus5 : RpL H5 (xs ++ us) ((ts ++ lot).map eP) := by
        rw [List.map_append]
        exact (hl.keep (same_t (smA.trans s5))).append (rus.keep (same_t s5))
      refine ⟨c3, _, kOf H5, rfl, SqT.of hc3, (rpl_kOf rus5).2, fun ys so hso hsb nso => .inl ⟨so, ys, rfl, SqL.of upd_same, fun tt ntt => ⟨by show 2 ≤ sizeLine; decide, fun w2 nw2 => ?_⟩⟩⟩
      obtain ⟨rq, hperm, _⟩ := sorted_vals_of rus5 hso hsb
      revert rq hperm
      generalize ys.map (kOf H5) = qs
      intro rq hperm
      have e1 := same_new (o := .lst ys) nso
      have e2 := same_new (o := .tup ys) ntt
      have e3 := same_new (o := .tup [.ref b, .ref tt]) nw2
      have e13 := e1.trans (e2.trans e3)
      have s6 := s5.trans e13
      have ro : Rp (upd (upd (upd H5 so (.lst ys)) tt (.tup ys)) w2 (.tup [.ref b, .ref tt])) (.ref w2) (eW nums qs) :=
        rp_web2 upd_same (e13 _ _ (s5 _ _ hb4)) (e3 _ _ upd_same) (rq.keep (same_t e13))
      generalize upd (upd (upd H5 so (.lst ys)) tt (.tup ys)) w2 (.tup [.ref b, .ref tt]) = H6 at ro s6
      have eadj : adj qs = adj (ts ++ lot) := adj_congr fun t => hperm.mem_iff
      have hql : qs.length ≤ 60 := by
        rw [hperm.length_eq, List.length_append, hlot.1]
        omega
      have edl : (deepL (adj (ts ++ lot)) (oth nums.length p) nums p).length = dl lot := by rw [← hdl]
      cases d with
      | some v => 
        refine ⟨.int v, rfl, rfl, false, rfl, iteF (iteF ?_)⟩
        exact ⟨_, _, rfl, sm4.trans s6⟩
      | none =>
        refine ⟨.non, rfl, rfl, true, rfl, iteT ⟨.ref w2, rfl, .int p, rfl, by show 1 ≤ sizeLine; decide, fun pp npp => ?_⟩⟩
        have e4 := same_new (o := .tup [.int p]) npp
        refine ⟨.ref w2, .ref pp, nums, qs, p, rfl, ro.keep (same_t e4), hql, h8, rp_tupI (ns := [p]) upd_same, hp, ?_, fun H7 o7 gx s7 no7 ho7 rgx => ⟨o7, gx, rfl, .inl (SqL.of ho7), _, 1, rfl, rfl, _, rfl, ?_⟩⟩
        · rw [eadj]
          exact conn_mono (fun _ _ h => adj_app_iff.mpr (.inl h)) g.conn
        · have el := rgx.len
          rw [List.length_map, eadj, edl] at el
          have s47 := sm4.trans (s6.trans (e4.trans s7))
          by_cases cc : dl lot ≤ 1
          · have e9 : dueStep dl k none lot = some (k : Int) := by simp [dueStep, cc]
            rw [e9]
            have c9 : decide ((gx.length : Int) ≤ 1) = true := decide_eq_true (by omega)
            show if decide ((gx.length : Int) ≤ 1) = true then _ else _
            rw [c9]
            refine iteT ⟨.int (0 + (k : Int)), rfl, some (.ref l0), some (.ref w2), ?_, s47⟩
            rw [ek]
            rfl
          · have e9 : dueStep dl k none lot = none := by simp [dueStep, cc]
            rw [e9]
            have c9 : decide ((gx.length : Int) ≤ 1) = false := decide_eq_false (by omega)
            show if decide ((gx.length : Int) ≤ 1) = true then _ else _
            rw [c9]
            exact iteF ⟨_, _, rfl, s47⟩
    · rintro σ H4 ⟨y10, y11, eσ, sm4⟩
      rw [List.take_length] at eσ
      subst eσ
      refine ⟨Nat.zero_le _, fun M0 nM0 => ?_⟩
      have s5 : Same H4 (upd H4 M0 (.lst [])) := same_new nM0
      have hM0 : (upd H4 M0 (.lst [])) M0 = some (.lst []) := upd_same
      have sm5 := sm4.trans s5
      generalize upd H4 M0 (.lst []) = H5 at s5 hM0 sm5
      have hL5 := sm5 _ _ hL
      refine ⟨.ref L, rfl, L, rfl, ⟨_, SqL.of hL5⟩, for_it (walkL hlxl) (fun i σ H' => ∃ y10 M ms, σ = [y0, y1, some (.ref a), some (.int nums.length), some (.int p), some (.ref fr), y6, some (encDue (lots.foldl (dueStep dl k) d0)), some (.ref L), some (.int (0 + (k : Int))), y10, y11, some (.ref M), y13, y14, y15, y16, y17, y18, y19, y20] ∧ Same H5 H' ∧
          H' M = some (.lst ms) ∧ RpL H' ms ((nextLots free (lots.take i)).map eTs))
        ⟨y10, M0, [], rfl, Same.refl _, hM0, .nil⟩ (fun i σ H' _ ⟨_, _, _, _, s, _⟩ => SqL.of (s _ _ hL5)) ?_ ?_⟩
      · rintro i x σ H6 H6' hi ⟨y10, M, ms, rfl, sm6, hM, rms⟩ ⟨rfl, hx⟩
        obtain ⟨d, hd, rx⟩ := rlx.get' hx
        rw [List.getElem?_map, List.getElem?_eq_getElem hi] at hd
        have hd' := Option.some.inj hd
        subst hd'
        have tk : nextLots free (lots.take (i + 1)) = nextLots free (lots.take i) ++ nextLots free [lots[i]] := by
          unfold nextLots
          rw [List.take_add_one, List.getElem?_eq_getElem hi, List.flatMap_append]
          rfl
        have hml : ms.length ≤ 117649 := by
          rw [rms.len, List.length_map]
          refine Nat.le_trans nextLots_len ?_
          refine Nat.le_trans (Nat.mul_le_mul (show (lots.take i).length ≤ 2401 by rw [List.length_take]; omega) hf49) ?_
          decide
        have hlot := hlm lots[i] (List.getElem_mem hi)
        rw [tk]
        revert rx hlot
        generalize lots[i] = lot
        intro rx hlot
        have sm26 := sm5.trans sm6
        have smA := sm.trans sm26
        obtain ⟨l0, us, rfl, hl0, rus⟩ := (rx.keep (same_t sm26)).tup
        have rx6 : Rp H6' (.ref l0) (eTs lot) := .t hl0 rus
        have hul : us.length = k := by rw [rus.len, List.length_map, hlot.1]
        have hfr6 := smA _ _ hfr
        refine ⟨.ref M, rfl, .ref fr, rfl, fr, rfl, ⟨_, SqL.of hfr6⟩, fun D nD => lcP free eP (fun t => decide (lot = [] ∨ pairLt (lot.getLastD (0, 0)) t)) (fun t => lot ++ [t]) eTs (walkL hfl) nD (fun H7 s7 => SqL.of (s7 _ _ hfr6)) (by omega) (yAt (rfx.keep (same_t smA))) ?_ ?_⟩
        · intro t y H7 R R' ht s7 ry hT hF
          have hl07 := s7 _ _ hl0
          refine ⟨rfl, .ref l0, rfl, Nat.zero_le _, fun q nq => eq_none K (rx6.keep (same_t s7)) nq ⟨_, rfl, ?_⟩⟩
          have e7 := same_new (o := .tup []) nq
          have hl08 := e7 _ _ hl07
          have rus8 := rus.keep (same_t (s7.trans e7))
          have ry8 := ry.keep (same_t e7)
          generalize upd H7 q (.tup []) = H8 at e7 hl08 rus8 ry8
          have fin : ∀ (hc : decide (lot = [] ∨ pairLt (lot.getLastD (0, 0)) t) = true), ∃ v, some (some (V.ref l0)) = some (some v) ∧ ∃ u, some (some y) = some (some u) ∧ 1 ≤ sizeLine ∧ ∀ q, H8 q = none → rCatA K v (.ref q) (upd H8 q (.tup [u])) R := by
            intro hc
            refine ⟨.ref l0, rfl, y, rfl, by decide, fun q nq => ?_⟩
            have e8 := same_new (o := .tup [y]) nq
            refine catR (e8 _ _ hl08) upd_same (by show us.length + 1 ≤ 5000; omega) fun c8 H9 s9 hc8 => hT hc _ _ (e7.trans (e8.trans s9)) (.t hc8 ?_)
            rw [List.map_append]
            exact (rus8.keep (same_t (e8.trans s9))).append (RpL.one (ry8.keep (same_t (e8.trans s9))))
          by_cases cn : lot = []
          · rw [decide_eq_true cn]
            exact iteT (iteT (fin (decide_eq_true (.inl cn))))
          · rw [decide_eq_false cn]
            obtain ⟨ini, z, ez⟩ : ∃ ini z, lot = ini ++ [z] := by
              rcases List.eq_nil_or_concat lot with e | ⟨i, z, e⟩
              · exact absurd e cn
              · exact ⟨i, z, by rw [e, List.concat_eq_append]⟩
            have ezl : lot.getLastD (0, 0) = z := by rw [ez]; simp
            have rus9 := rus8
            rw [ez] at rus9
            obtain ⟨us1, vz, eus, rz⟩ := rpl_snoc rus9
            obtain ⟨az, rfl, haz⟩ := rz.pair
            obtain ⟨ay, rfl, hay⟩ := ry8.pair
            refine iteF ⟨.ref ay, rfl, .ref l0, rfl, 1, rfl, l0, us, -1, .ref az, rfl, rfl, SqT.of hl08, by rw [eus]; exact atI_last _ _, ay, az, t.1, t.2, z.1, z.2, rfl, rfl, SqT.of hay, SqT.of haz, _, rfl, ?_⟩
            by_cases c9 : pairLt z t
            · rw [decide_eq_true (show z.1 < t.1 ∨ (z.1 = t.1 ∧ z.2 < t.2) from c9)]
              exact iteT (fin (decide_eq_true (.inr (by rw [ezl]; exact c9))))
            · rw [decide_eq_false (show ¬ (z.1 < t.1 ∨ (z.1 = t.1 ∧ z.2 < t.2)) from c9)]
              exact iteF (hF (decide_eq_false fun q => by
                rcases q with q | q
                · exact cn q
                · rw [ezl] at q
                  exact c9 q) _ e7)
        · intro H7 zs s7 hD rz
          have hM7 := s7 _ _ hM
          have hzl : zs.length ≤ 49 := by
            rw [rz.len, List.length_map, List.length_map]
            exact Nat.le_trans (List.length_filter_le _ _) hf49
          refine ⟨M, D, ms, zs, rfl, rfl, hM7, hD, sizeLine_big (by omega), fun M2 nM2 => ?_⟩
          have e8 := same_new (o := .lst (ms ++ zs)) nM2
          refine ⟨_, M2, _, rfl, sm6.trans (s7.trans e8), upd_same, ?_⟩
          rw [List.map_append]
          refine (rms.keep (same_t (s7.trans e8))).append ?_
          have e9 : nextLots free [lot] = (free.filter fun t => decide (lot = [] ∨ pairLt (lot.getLastD (0, 0)) t)).map fun t => lot ++ [t] := by
            unfold nextLots
            rw [List.flatMap_cons, List.flatMap_nil, List.append_nil]
          rw [e9]
          exact rz.keep (same_t e8)
      · rintro σ H6 ⟨y10, M, ms, rfl, sm6, hM, rms⟩
        rw [List.take_length] at rms
        exact ⟨.ref M, rfl, _, _, _, _, M, ms, rfl, sm.trans (sm5.trans sm6), hM, rms⟩
  · rintro σ H2 ⟨y9, y10, y11, y12, L, lx, rfl, sm, hL, rlx⟩
    rw [due_three, hdue]
    refine ⟨.ref a, rfl, .int p, rfl, .ref a, nums, ts, p, rfl, hv.keep (same_t sm), g, hp, fun H4 s4 => ?_⟩
    have sm4 := sm.trans s4
    by_cases cd : (deepL (adj ts) (oth nums.length p) nums p).length - 1 ≤ 2
    · rw [if_pos cd]
      refine ⟨.int (((deepL (adj ts) (oth nums.length p) nums p).length - 1 : Nat) : Int), rfl, rfl, true, rfl, iteT ⟨_, rfl, _, rfl, _, _, rfl, .inl ⟨.i (((deepL (adj ts) (oth nums.length p) nums p).length - 1 : Nat) : Int), True.intro, .i _, .i _⟩, fun H5 s5 => ⟨true, rfl, iteF ⟨.int (((deepL (adj ts) (oth nums.length p) nums p).length - 1 : Nat) : Int), rfl, rfl, false, rfl, iteF (iteF ?_)⟩⟩⟩⟩
      exact rC y0 y1 _ y6 _ _ _ _ _ _ y14 y15 y16 y17 y18 y19 y20 (.ref a) p H5 nums ts (hv.keep (same_t (sm4.trans s5))) dr hp
    · rw [if_neg cd]
      refine ⟨.non, rfl, rfl, false, rfl, iteF ⟨.non, rfl, rfl, true, rfl, iteT ⟨.int (((deepL (adj ts) (oth nums.length p) nums p).length - 1 : Nat) : Int), rfl, _, 3, rfl, rfl, _, rfl, ?_⟩⟩⟩
      have c9 : decide ((((deepL (adj ts) (oth nums.length p) nums p).length - 1 : Nat) : Int) < 3) = false := decide_eq_false (by omega)
      show if decide ((((deepL (adj ts) (oth nums.length p) nums p).length - 1 : Nat) : Int) < 3) = true then _ else _
      rw [c9]
      exact iteF (rC y0 y1 _ y6 _ _ _ _ _ _ y14 y15 y16 y17 y18 y19 y20 (.ref a) p H4 nums ts (hv.keep (same_t sm4)) dr hp)
end
end K16
namespace K16
open PySem PySem.Spec PyProof.Rows L2 Classical
theorem any_ties {t : Tie} : ∀ ts : List Tie, ((toPs (ts.map eP)).any fun z => PyData.eqv z (toP (eP t))) = decide (t ∈ ts)
  | [] => by simp [toPs]
  | u :: ts => by
    have ih := any_ties (t := t) ts
    have k := eqv_toP (eP u) (eP t)
    show (PyData.eqv (toP (eP u)) (toP (eP t)) || (toPs (ts.map eP)).any fun z => PyData.eqv z (toP (eP t))) = _
    rw [ih]
    by_cases c : u = t
    · have e1 : PyData.eqv (toP (eP u)) (toP (eP t)) = true := k.mpr (by rw [c])
      rw [e1, decide_eq_true (show t ∈ u :: ts by rw [c]; exact List.mem_cons_self)]
      rfl
    · have e1 : PyData.eqv (toP (eP u)) (toP (eP t)) = false := by
        cases hb : PyData.eqv (toP (eP u)) (toP (eP t)) with
        | false => rfl
        | true => exact absurd (eP_inj (k.mp hb)) c
      rw [e1, Bool.false_or]
      refine decide_eq_decide.mpr ⟨List.mem_cons_of_mem _, fun h => ?_⟩
      rcases List.mem_cons.mp h with e | e
      · exact absurd e.symm c
      · exact e
theorem notin_ties (K : PySem.W.Frag) {H : Hp} {x : V} {c : Addr} {xs : List V} {t : Tie} {ts : List Tie} {Q : VK} (hx : Rp H x (eP t)) (hc : H c = some (.tup xs)) (hl : RpL H xs (ts.map eP)) (h : Q (.bl (!decide (t ∈ ts))) H) : rNotInT K x (.ref c) H Q := by
  refine ⟨toP (eP t), toPs (ts.map eP), Rp.dp K _ _ hx, Rp.dp K (eTs ts) _ (.t hc hl), shaped_toP (dep_eP 0 t) (by decide), shaped_toP (dep_eTs 0 ts) (by decide), ?_⟩
  rw [any_ties]
  exact h
def spLaw (K : PySem.W.Frag) : Sp := fun vs H Q _ => ∃ (a : Addr) (ns : List Int), vs = [.ref a] ∧ SqL K H a (ns.map V.int) ∧ ns.length ≤ 63 ∧ ∀ H', Q (.bl true) H'
section
variable {P : Program} {w : World} {K : PySem.W.Frag} {mg : Str → Option Value} {base : Heap}
/-- the whole text -/
theorem lawAa (C : LawC P w K mg base) (B : Blt mg) (f : Addr) (cdv : Value) (A : Around) (outer : List Env) (s : Shared) (H : Hp) (E : XK) (hr : lawRoom f cdv A s) (Q : VK) (hQ : ∀ H', Q (.bl true) H') :
    ∃ t, PSs (lawX P w K mg base f cdv A outer s H E) (defBody dLaw) t ∧ ∀ (a : Addr) (ns : List Int), SqL K H a (ns.map V.int) → t (lawD Q) (start nLaw [.ref a]) H := by
  obtain ⟨tB, hB, rB⟩ := lawBb C B f cdv A outer s H E hr Q hQ
  have hu65 : (A.deeper (envOfC "law" (defScope dLaw) s.heap.objs.size f cdv)).units + 65 < cLine := by
    have := hr.un
    omega
  refine ⟨_, pss_cons (ps_set (i := 1) scLaw.nd rfl (.inl rfl) (pe_lst (pa_cons (pv 0) (pa_cons pe_int (pa_cons pe_int (pa_cons pe_int pa_nil))))))
      (pss_cons (ps_set (i := 2) scLaw.nd rfl (.inr rfl) (pcl C.wb hr (by decide) (by rfl) (pa_cons (pv 1) (pa_cons pe_int (pa_cons pe_int pa_nil)))))
      (pss_cons (ps_par (i := 3) (j := 4) rfl scLaw.nd rfl rfl (by decide) rfl rfl (pa_cons (pe_callB call_len_seq (by rfl) B.len PySem.boot_len (pa_cons (pe_ix ix_tup (pv 2) pe_int (fun _ _ => rfl)) pa_nil))
        (pa_cons (pcl C.tk hr (by decide) (by rfl) (pa_cons (pv 1) (pa_cons (pe_callB call_len_seq (by rfl) B.len PySem.boot_len (pa_cons (pe_ix ix_tup (pv 2) pe_int (fun _ _ => rfl)) pa_nil)) pa_nil))) pa_nil)) (by rfl))
      (pss_cons (ps_set (i := 5) scLaw.nd rfl (.inl rfl) (pe_lst pa_nil))
      (pss_cons (ps_for PassesOwn.never rfl (pi_range1 (by rfl) B.range (pa_cons (pv 3) pa_nil)) (pg_name (i := 6) scLaw.nd rfl (.inr rfl))
        (pss_one (ps_set (i := 5) scLaw.nd rfl (.inl rfl) (pe_op op_cat (pv 5) (pe_lc (own := [("_law_other", 11)]) (g := gName 11) rfl scLaw.nd (pi_range2 (by rfl) B.range (pa_cons (pe_op op_add (pv 6) pe_int) (pa_cons (pv 3) pa_nil)))
          (blkOk_by (N := nLaw) (sc := defScope dLaw) (by decide +kernel)) (fun _ _ _ _ _ => pg_name (i := 11) scLaw.nd rfl (Or.inl rfl))
          (fun _ _ _ _ _ => pts_one (pt_cmpR (notInT K hu65) (pe_tup (pa_cons (pv 6) (pa_cons (pv 11) pa_nil))) (pe_ix (ixT K) (pv 2) pe_int (fun _ _ => rfl)) (by rfl)))
          (fun _ _ _ _ _ => pe_tup (pa_cons (pv 6) (pa_cons (pv 11) pa_nil))))))))
      hB)))), ?_⟩
  intro a ns hS
  -- the row
  refine ⟨.ref a, rfl, by show 4 ≤ sizeLine; decide, fun r nr => ?_⟩
  have nar := nr_new hS nr
  have hS1 : SqL K (upd H r (.lst (rowV a 0 4816 0))) a (ns.map V.int) := sqL_upd hS nar
  have ro1 : RowOk r a (upd H r (.lst (rowV a 0 4816 0))) := ⟨0, 4816, 0, upd_same, by decide, by decide, by decide⟩
  have eH : upd H r (.lst [.ref a, .int 0, .int 4816, .int 0]) = upd H r (.lst (rowV a 0 4816 0)) := rfl
  rw [eH]
  generalize upd H r (.lst (rowV a 0 4816 0)) = H1 at hS1 ro1
  -- the web
  refine ⟨.ref r, rfl, r, a, ns, rfl, ro1, hS1, nar, fun H2 v nums ts sb2 ro2 rv dr => ?_⟩
  have hS2 := sb2.sq hS1 nar
  have g := dr.good
  have n1 := g.n1
  have n7 := dr.n7
  have ht10 := dr.t10
  obtain ⟨wa, b, c, rfl, ha, hb, xs, hc, hl⟩ := id rv.web
  have hnl : (nums.map V.int).length = nums.length := List.length_map ..
  obtain ⟨i, m, cc, hrow, b1, b2, b3⟩ := ro2.ex
  refine ⟨.ref wa, rfl, wa, _, 0, .ref b, rfl, rfl, SqT.of ha, atI_nat (j := 0) rfl, b, _, rfl, .inr (SqT.of hb), .ref r, rfl, .ref wa, rfl, wa, _, 0, .ref b, rfl, rfl, SqT.of ha, atI_nat (j := 0) rfl, b, _, rfl, .inr (SqT.of hb), r, a, ns, i, m, cc, _, rfl, hrow, hS2, nar, b1, b2, b3, by omega, by omega, fun i' m' c' p d1 d2 d3 p0 pn => ⟨_, .int p, rfl, ?_⟩⟩
  obtain ⟨sb3, ro3⟩ := sb_row (r := r) (a := a) (H := H2) (c := c') d1 d2 d3
  have rv3 := rv.keep (sb3.t ro2)
  generalize upd H2 r (.lst (rowV a i' m' c')) = H3 at sb3 ro3 rv3
  have hp : p ∈ evb nums.length := mem_evb.mpr ⟨p0, by omega⟩
  rw [hnl]
  obtain ⟨wa', b', c', e, ha3, hb3, xs3, hc3, hl3⟩ := id rv3.web
  cases e
  have hxl : xs3.length = ts.length := by rw [hl3.len, List.length_map]
  -- free
  refine ⟨Nat.zero_le _, fun F0 nF0 => ?_⟩
  have s4 : Same H3 (upd H3 F0 (.lst [])) := same_new nF0
  have hF0 : (upd H3 F0 (.lst [])) F0 = some (.lst []) := upd_same
  generalize upd H3 F0 (.lst []) = H4 at s4 hF0
  have hw : Walk (Itr 0 ((nums.length : Int)).toNat) nums.length (fun _ => True) (YFn fun i => .int (0 + (i : Int))) := by
    rw [Int.toNat_natCast]
    exact walk_range
  refine ⟨.int nums.length, rfl, _, rfl, by omega, by omega, for_it hw (fun i σ H' => ∃ y6 F fx, σ = [some (.ref a), some (.ref r), some (.ref wa), some (.int nums.length), some (.int p), some (.ref F), y6, none, none, none, none, none, none, none, none, none, none, none, none, none, none] ∧ Same H3 H' ∧
      H' F = some (.lst fx) ∧ RpL H' fx ((((evb nums.length).take i).flatMap (freeRow ts nums.length)).map eP))
    ⟨none, F0, [], rfl, s4, hF0, .nil⟩ (fun _ _ _ _ _ => True.intro) ?_ ?_⟩
  · rintro i x σ H5 H5' hi ⟨y6, F, fx, rfl, sm, hF, rfx⟩ ⟨rfl, ex⟩
    change x = V.int (0 + (i : Int)) at ex
    subst ex
    have tk : (evb nums.length).take (i + 1) = (evb nums.length).take i ++ [0 + (i : Int)] := by
      rw [List.take_add_one]
      unfold evb
      rw [rgI_get hi]
      rfl
    have z0 : 0 ≤ 0 + (i : Int) := by omega
    have z1 : 0 + (i : Int) < (nums.length : Int) := by omega
    rw [tk]
    have hfl : fx.length ≤ 49 := by
      rw [rfx.len, List.length_map]
      have h1 : (((evb nums.length).take i).flatMap (freeRow ts nums.length)).length ≤ ((evb nums.length).take i).length * 7 := flatMap_len fun a ha => Nat.le_trans (freeRow_len (mem_evb.mp (List.mem_of_mem_take ha)).1) n7
      have h2 : ((evb nums.length).take i).length ≤ 7 := by
        rw [List.length_take, evb_len]
        omega
      omega
    revert z0 z1
    generalize (0 : Int) + (i : Int) = z
    intro z0 z1
    have ha5 := sm _ _ ha3
    have hc5 := sm _ _ hc3
    have hl5 := hl3.keep (same_t sm)
    refine ⟨.ref F, rfl, .int z, rfl, z, 1, rfl, rfl, .int nums.length, rfl, z + 1, nums.length, rfl, ⟨by omega, by omega, by omega, by omega⟩, fun D nD => ?_⟩
    have hw2 : Walk (Itr (z + 1) ((nums.length : Int) - (z + 1)).toNat) (rgI (z + 1) ((nums.length : Int) - (z + 1)).toNat).length (fun _ => True) (YFn fun i => .int (z + 1 + (i : Int))) := by
      rw [rgI_len]
      exact walk_range
    refine lcP (rgI (z + 1) ((nums.length : Int) - (z + 1)).toNat) Dt.i (fun b => !decide ((z, b) ∈ ts)) (fun b => (z, b)) eP hw2 nD (fun _ _ => True.intro) (by rw [rgI_len]; omega) yFn ?_ ?_
    · intro b y H6 R R' hb6 s6 ry hT hF6
      cases ry
      refine ⟨rfl, .int z, rfl, .int b, rfl, by show 2 ≤ sizeLine; decide, fun u nu => ⟨.ref wa, rfl, wa, _, 1, .ref c', rfl, rfl, SqT.of (same_new nu _ _ (s6 _ _ ha5)), atI_nat (j := 1) rfl, notin_ties K (t := (z, b)) (ts := ts) (rp_pair upd_same) (same_new nu _ _ (s6 _ _ hc5)) (hl5.keep (same_t (s6.trans (same_new nu)))) ⟨_, rfl, ?_⟩⟩⟩
      have e7 := same_new (o := .tup [.int z, .int b]) nu
      by_cases cm : (z, b) ∈ ts
      · rw [decide_eq_true cm]
        exact iteF (hF6 (by rw [decide_eq_true cm]; rfl) _ e7)
      · rw [decide_eq_false cm]
        exact iteT ⟨.int z, rfl, .int b, rfl, by show 2 ≤ sizeLine; decide, fun q nq => hT (by rw [decide_eq_false cm]; rfl) _ _ (e7.trans (same_new nq)) (rp_pair upd_same)⟩
    · intro H6 zs s6 hD rz
      have hzl : zs.length ≤ 7 := by
        rw [rz.len, List.length_map, List.length_map]
        refine Nat.le_trans (List.length_filter_le _ _) ?_
        rw [rgI_len]
        omega
      refine ⟨F, D, fx, zs, rfl, rfl, s6 _ _ hF, hD, sizeLine_big (by omega), fun F2 nF2 => ?_⟩
      have e8 := same_new (o := .lst (fx ++ zs)) nF2
      refine ⟨_, F2, _, rfl, sm.trans (s6.trans e8), upd_same, ?_⟩
      rw [List.flatMap_append, List.map_append, List.flatMap_cons, List.flatMap_nil, List.append_nil]
      exact (rfx.keep (same_t (s6.trans e8))).append (rz.keep (same_t e8))
  · rintro σ H5 ⟨y6, F, fx, rfl, sm, hF, rfx⟩
    have ef : (evb nums.length).take nums.length = evb nums.length := by
      have h := List.take_length (l := evb nums.length)
      rw [evb_len] at h
      exact h
    rw [ef] at rfx
    exact rB _ _ y6 none none none none none none none none none none none none none none (.ref wa) p F fx H5 nums ts (rv3.keep (same_t sm)) dr hp hF rfx
theorem okLaw {f : Addr} {fd : FuncData} (F : Fun K "law" "law" dLaw f fd) (C : LawC P w K mg base) (B : Blt mg) : FnOk P w K mg base CX0 7 f fd ["_law_script"] (spLaw K) := by
  refine F.ok scLaw (fun vs H Q E h => ?_) (fun cdv A outer s H vs Q E hr h => ?_)
  · obtain ⟨a, ns, rfl, _⟩ := h
    rfl
  · obtain ⟨a, ns, rfl, hS, _, k⟩ := h
    obtain ⟨t, ht, rt⟩ := lawAa C B f cdv A outer s H E hr Q k
    exact ⟨t, ht, rt a ns hS⟩
end
end K16
namespace K16
open PySem PySem.Spec PyProof.Rows L2 Classical
theorem all_mk {l : PySem.W.OpenLaw} {w : World} {K : PySem.W.Frag} {h : Heap} {mg : Str → Option Value} {fa : Addr} (X : K.In h) (G : h.Ns mainGlobals mg) (hfa : mg "law" = some (.ref fa))
    {f1 f2 f3 f4 f5 f6 f7 f8 f9 f10 f11 f12 f13 f14 f15 f16 f17 f18 f19 f20 f21 f22 f23 f24 f25 f26 f27 f28 f29 f30 : Addr} {od1 an1 od2 an2 od3 an3 od4 an4 od5 an5 od6 an6 od7 an7 od8 an8 od9 an9 od10 an10 od11 an11 od12 an12 od13 an13 od14 an14 od15 an15 od16 an16 od17 an17 od18 an18 od19 an19 od20 an20 od21 an21 od22 an22 od23 an23 od24 an24 od25 an25 od26 an26 od27 an27 od28 an28 od29 an29 od30 an30 : Option Addr} {sl1 sl2 sl3 sl4 sl5 sl6 sl7 sl8 sl9 sl10 sl11 sl12 sl13 sl14 sl15 sl16 sl17 sl18 sl19 sl20 sl21 sl22 sl23 sl24 sl25 sl26 sl27 sl28 sl29 sl30 : Array (Option Value)} {tp tv : Tok}
    {oc1 kV1 dc1 pm1 cd1 ct1 oc2 kV2 dc2 pm2 cd2 ct2 oc3 kV3 dc3 pm3 cd3 ct3 oc4 kV4 dc4 pm4 cd4 ct4 oc5 kV5 dc5 pm5 cd5 ct5 oc6 kV6 dc6 pm6 cd6 ct6 oc7 kV7 dc7 pm7 cd7 ct7 oc8 kV8 dc8 pm8 cd8 ct8 oc9 kV9 dc9 pm9 cd9 ct9 oc10 kV10 dc10 pm10 cd10 ct10 oc11 kV11 dc11 pm11 cd11 ct11 oc12 kV12 dc12 pm12 cd12 ct12 oc13 kV13 dc13 pm13 cd13 ct13 oc14 kV14 dc14 pm14 cd14 ct14 oc15 kV15 dc15 pm15 cd15 ct15 oc16 kV16 dc16 pm16 cd16 ct16 oc17 kV17 dc17 pm17 cd17 ct17 oc18 kV18 dc18 pm18 cd18 ct18 oc19 kV19 dc19 pm19 cd19 ct19 oc20 kV20 dc20 pm20 cd20 ct20 oc21 kV21 dc21 pm21 cd21 ct21 oc22 kV22 dc22 pm22 cd22 ct22 oc23 kV23 dc23 pm23 cd23 ct23 oc24 kV24 dc24 pm24 cd24 ct24 oc25 kV25 dc25 pm25 cd25 ct25 oc26 kV26 dc26 pm26 cd26 ct26 oc27 kV27 dc27 pm27 cd27 ct27 oc28 kV28 dc28 pm28 cd28 ct28 oc29 kV29 dc29 pm29 cd29 ct29 oc30 kV30 dc30 pm30 cd30 ct30 : Value}
    (a1 : PySem.W.nsIn K mainGlobals "is_int" = some (some (.ref f1))) (l1 : K.lookup f1 = some ⟨oc1, od1, .func (PySem.W.fnOf "is_int" "is_int" (defArgs dIsInt) (defBody dIsInt) (defScope dIsInt) .none kV1 dc1 pm1 an1 cd1 ct1), sl1⟩) (c1 : PySem.W.codeIn K cd1 "is_int" = true) (k1 : PySem.W.keepIn K (.ref f1) = true)
    (a2 : PySem.W.nsIn K mainGlobals "is_from" = some (some (.ref f2))) (l2 : K.lookup f2 = some ⟨oc2, od2, .func (PySem.W.fnOf "is_from" "is_from" (defArgs dIsFrom) (defBody dIsFrom) (defScope dIsFrom) .none kV2 dc2 pm2 an2 cd2 ct2), sl2⟩) (c2 : PySem.W.codeIn K cd2 "is_from" = true) (k2 : PySem.W.keepIn K (.ref f2) = true)
    (a3 : PySem.W.nsIn K mainGlobals "is_tie" = some (some (.ref f3))) (l3 : K.lookup f3 = some ⟨oc3, od3, .func (PySem.W.fnOf "is_tie" "is_tie" (defArgs dIsTie) (defBody dIsTie) (defScope dIsTie) .none kV3 dc3 pm3 an3 cd3 ct3), sl3⟩) (c3 : PySem.W.codeIn K cd3 "is_tie" = true) (k3 : PySem.W.keepIn K (.ref f3) = true)
    (a4 : PySem.W.nsIn K mainGlobals "need_web" = some (some (.ref f4))) (l4 : K.lookup f4 = some ⟨oc4, od4, .func (PySem.W.fnOf "need_web" "need_web" (defArgs dNeed) (defBody dNeed) (defScope dNeed) .none kV4 dc4 pm4 an4 cd4 ct4), sl4⟩) (c4 : PySem.W.codeIn K cd4 "need_web" = true) (k4 : PySem.W.keepIn K (.ref f4) = true)
    (a5 : PySem.W.nsIn K mainGlobals "everybody" = some (some (.ref f5))) (l5 : K.lookup f5 = some ⟨oc5, od5, .func (PySem.W.fnOf "everybody" "everybody" (defArgs dEvb) (defBody dEvb) (defScope dEvb) .none kV5 dc5 pm5 an5 cd5 ct5), sl5⟩) (c5 : PySem.W.codeIn K cd5 "everybody" = true) (k5 : PySem.W.keepIn K (.ref f5) = true)
    (a6 : PySem.W.nsIn K mainGlobals "tied_to" = some (some (.ref f6))) (l6 : K.lookup f6 = some ⟨oc6, od6, .func (PySem.W.fnOf "tied_to" "tied_to" (defArgs dTied) (defBody dTied) (defScope dTied) .none kV6 dc6 pm6 an6 cd6 ct6), sl6⟩) (c6 : PySem.W.codeIn K cd6 "tied_to" = true) (k6 : PySem.W.keepIn K (.ref f6) = true)
    (a7 : PySem.W.nsIn K mainGlobals "hanging" = some (some (.ref f7))) (l7 : K.lookup f7 = some ⟨oc7, od7, .func (PySem.W.fnOf "hanging" "hanging" (defArgs dHang) (defBody dHang) (defScope dHang) .none kV7 dc7 pm7 an7 cd7 ct7), sl7⟩) (c7 : PySem.W.codeIn K cd7 "hanging" = true) (k7 : PySem.W.keepIn K (.ref f7) = true)
    (a8 : PySem.W.nsIn K mainGlobals "need_person" = some (some (.ref f8))) (l8 : K.lookup f8 = some ⟨oc8, od8, .func (PySem.W.fnOf "need_person" "need_person" (defArgs dNeedP) (defBody dNeedP) (defScope dNeedP) .none kV8 dc8 pm8 an8 cd8 ct8), sl8⟩) (c8 : PySem.W.codeIn K cd8 "need_person" = true) (k8 : PySem.W.keepIn K (.ref f8) = true)
    (a9 : PySem.W.nsIn K mainGlobals "parts_of" = some (some (.ref f9))) (l9 : K.lookup f9 = some ⟨oc9, od9, .func (PySem.W.fnOf "parts_of" "parts_of" (defArgs dParts) (defBody dParts) (defScope dParts) .none kV9 dc9 pm9 an9 cd9 ct9), sl9⟩) (c9 : PySem.W.codeIn K cd9 "parts_of" = true) (k9 : PySem.W.keepIn K (.ref f9) = true)
    (a10 : PySem.W.nsIn K mainGlobals "others" = some (some (.ref f10))) (l10 : K.lookup f10 = some ⟨oc10, od10, .func (PySem.W.fnOf "others" "others" (defArgs dOthers) (defBody dOthers) (defScope dOthers) .none kV10 dc10 pm10 an10 cd10 ct10), sl10⟩) (c10 : PySem.W.codeIn K cd10 "others" = true) (k10 : PySem.W.keepIn K (.ref f10) = true)
    (a11 : PySem.W.nsIn K mainGlobals "border_of" = some (some (.ref f11))) (l11 : K.lookup f11 = some ⟨oc11, od11, .func (PySem.W.fnOf "border_of" "border_of" (defArgs dBorder) (defBody dBorder) (defScope dBorder) .none kV11 dc11 pm11 an11 cd11 ct11), sl11⟩) (c11 : PySem.W.codeIn K cd11 "border_of" = true) (k11 : PySem.W.keepIn K (.ref f11) = true)
    (a12 : PySem.W.nsIn K mainGlobals "least_of" = some (some (.ref f12))) (l12 : K.lookup f12 = some ⟨oc12, od12, .func (PySem.W.fnOf "least_of" "least_of" (defArgs dLeast) (defBody dLeast) (defScope dLeast) .none kV12 dc12 pm12 an12 cd12 ct12), sl12⟩) (c12 : PySem.W.codeIn K cd12 "least_of" = true) (k12 : PySem.W.keepIn K (.ref f12) = true)
    (a13 : PySem.W.nsIn K mainGlobals "is_deep" = some (some (.ref f13))) (l13 : K.lookup f13 = some ⟨oc13, od13, .func (PySem.W.fnOf "is_deep" "is_deep" (defArgs dIsDeep) (defBody dIsDeep) (defScope dIsDeep) .none kV13 dc13 pm13 an13 cd13 ct13), sl13⟩) (c13 : PySem.W.codeIn K cd13 "is_deep" = true) (k13 : PySem.W.keepIn K (.ref f13) = true)
    (a14 : PySem.W.nsIn K mainGlobals "deep_of" = some (some (.ref f14))) (l14 : K.lookup f14 = some ⟨oc14, od14, .func (PySem.W.fnOf "deep_of" "deep_of" (defArgs dDeepOf) (defBody dDeepOf) (defScope dDeepOf) .none kV14 dc14 pm14 an14 cd14 ct14), sl14⟩) (c14 : PySem.W.codeIn K cd14 "deep_of" = true) (k14 : PySem.W.keepIn K (.ref f14) = true)
    (a15 : PySem.W.nsIn K mainGlobals "cost_of" = some (some (.ref f15))) (l15 : K.lookup f15 = some ⟨oc15, od15, .func (PySem.W.fnOf "cost_of" "cost_of" (defArgs dCost) (defBody dCost) (defScope dCost) .none kV15 dc15 pm15 an15 cd15 ct15), sl15⟩) (c15 : PySem.W.codeIn K cd15 "cost_of" = true) (k15 : PySem.W.keepIn K (.ref f15) = true)
    (a16 : PySem.W.nsIn K mainGlobals "fewest_ties" = some (some (.ref f16))) (l16 : K.lookup f16 = some ⟨oc16, od16, .func (PySem.W.fnOf "fewest_ties" "fewest_ties" (defArgs dFew) (defBody dFew) (defScope dFew) .none kV16 dc16 pm16 an16 cd16 ct16), sl16⟩) (c16 : PySem.W.codeIn K cd16 "fewest_ties" = true) (k16 : PySem.W.keepIn K (.ref f16) = true)
    (a17 : PySem.W.nsIn K mainGlobals "some_ties" = some (some (.ref f17))) (l17 : K.lookup f17 = some ⟨oc17, od17, .func (PySem.W.fnOf "some_ties" "some_ties" (defArgs dSome) (defBody dSome) (defScope dSome) .none kV17 dc17 pm17 an17 cd17 ct17), sl17⟩) (c17 : PySem.W.codeIn K cd17 "some_ties" = true) (k17 : PySem.W.keepIn K (.ref f17) = true)
    (a18 : PySem.W.nsIn K mainGlobals "is_bridge" = some (some (.ref f18))) (l18 : K.lookup f18 = some ⟨oc18, od18, .func (PySem.W.fnOf "is_bridge" "is_bridge" (defArgs dIsBr) (defBody dIsBr) (defScope dIsBr) .none kV18 dc18 pm18 an18 cd18 ct18), sl18⟩) (c18 : PySem.W.codeIn K cd18 "is_bridge" = true) (k18 : PySem.W.keepIn K (.ref f18) = true)
    (a19 : PySem.W.nsIn K mainGlobals "bridges" = some (some (.ref f19))) (l19 : K.lookup f19 = some ⟨oc19, od19, .func (PySem.W.fnOf "bridges" "bridges" (defArgs dBrs) (defBody dBrs) (defScope dBrs) .none kV19 dc19 pm19 an19 cd19 ct19), sl19⟩) (c19 : PySem.W.codeIn K cd19 "bridges" = true) (k19 : PySem.W.keepIn K (.ref f19) = true)
    (a20 : PySem.W.nsIn K mainGlobals "costs_without" = some (some (.ref f20))) (l20 : K.lookup f20 = some ⟨oc20, od20, .func (PySem.W.fnOf "costs_without" "costs_without" (defArgs dCW) (defBody dCW) (defScope dCW) .none kV20 dc20 pm20 an20 cd20 ct20), sl20⟩) (c20 : PySem.W.codeIn K cd20 "costs_without" = true) (k20 : PySem.W.keepIn K (.ref f20) = true)
    (a21 : PySem.W.nsIn K mainGlobals "worst_numbers" = some (some (.ref f21))) (l21 : K.lookup f21 = some ⟨oc21, od21, .func (PySem.W.fnOf "worst_numbers" "worst_numbers" (defArgs dWorst) (defBody dWorst) (defScope dWorst) .none kV21 dc21 pm21 an21 cd21 ct21), sl21⟩) (c21 : PySem.W.codeIn K cd21 "worst_numbers" = true) (k21 : PySem.W.keepIn K (.ref f21) = true)
    (a22 : PySem.W.nsIn K mainGlobals "_law_taken" = some (some (.ref f22))) (l22 : K.lookup f22 = some ⟨oc22, od22, .func (PySem.W.fnOf "_law_taken" "_law_taken" (defArgs dTaken) (defBody dTaken) (defScope dTaken) .none kV22 dc22 pm22 an22 cd22 ct22), sl22⟩) (c22 : PySem.W.codeIn K cd22 "_law_taken" = true) (k22 : PySem.W.keepIn K (.ref f22) = true)
    (a23 : PySem.W.nsIn K mainGlobals "_law_alike" = some (some (.ref f23))) (l23 : K.lookup f23 = some ⟨oc23, od23, .func (PySem.W.fnOf "_law_alike" "_law_alike" (defArgs dAlike) (defBody dAlike) (defScope dAlike) .none kV23 dc23 pm23 an23 cd23 ct23), sl23⟩) (c23 : PySem.W.codeIn K cd23 "_law_alike" = true) (k23 : PySem.W.keepIn K (.ref f23) = true)
    (a24 : PySem.W.nsIn K mainGlobals "_law_web" = some (some (.ref f24))) (l24 : K.lookup f24 = some ⟨oc24, od24, .func (PySem.W.fnOf "_law_web" "_law_web" (defArgs dLWeb) (defBody dLWeb) (defScope dLWeb) .none kV24 dc24 pm24 an24 cd24 ct24), sl24⟩) (c24 : PySem.W.codeIn K cd24 "_law_web" = true) (k24 : PySem.W.keepIn K (.ref f24) = true)
    (a25 : PySem.W.nsIn K mainGlobals "_law_ties" = some (some (.ref f25))) (l25 : K.lookup f25 = some ⟨oc25, od25, .func (PySem.W.fnOf "_law_ties" "_law_ties" (defArgs dLTies) (defBody dLTies) (defScope dLTies) .none kV25 dc25 pm25 an25 cd25 ct25), sl25⟩) (c25 : PySem.W.codeIn K cd25 "_law_ties" = true) (k25 : PySem.W.keepIn K (.ref f25) = true)
    (a26 : PySem.W.nsIn K mainGlobals "_law_parts" = some (some (.ref f26))) (l26 : K.lookup f26 = some ⟨oc26, od26, .func (PySem.W.fnOf "_law_parts" "_law_parts" (defArgs dLParts) (defBody dLParts) (defScope dLParts) .none kV26 dc26 pm26 an26 cd26 ct26), sl26⟩) (c26 : PySem.W.codeIn K cd26 "_law_parts" = true) (k26 : PySem.W.keepIn K (.ref f26) = true)
    (a27 : PySem.W.nsIn K mainGlobals "_law_rest" = some (some (.ref f27))) (l27 : K.lookup f27 = some ⟨oc27, od27, .func (PySem.W.fnOf "_law_rest" "_law_rest" (defArgs dRest) (defBody dRest) (defScope dRest) .none kV27 dc27 pm27 an27 cd27 ct27), sl27⟩) (c27 : PySem.W.codeIn K cd27 "_law_rest" = true) (k27 : PySem.W.keepIn K (.ref f27) = true)
    (a28 : PySem.W.nsIn K mainGlobals "_law_border" = some (some (.ref f28))) (l28 : K.lookup f28 = some ⟨oc28, od28, .func (PySem.W.fnOf "_law_border" "_law_border" (defArgs dLBorder) (defBody dLBorder) (defScope dLBorder) .none kV28 dc28 pm28 an28 cd28 ct28), sl28⟩) (c28 : PySem.W.codeIn K cd28 "_law_border" = true) (k28 : PySem.W.keepIn K (.ref f28) = true)
    (a29 : PySem.W.nsIn K mainGlobals "_law_deep" = some (some (.ref f29))) (l29 : K.lookup f29 = some ⟨oc29, od29, .func (PySem.W.fnOf "_law_deep" "_law_deep" (defArgs dLDeep) (defBody dLDeep) (defScope dLDeep) .none kV29 dc29 pm29 an29 cd29 ct29), sl29⟩) (c29 : PySem.W.codeIn K cd29 "_law_deep" = true) (k29 : PySem.W.keepIn K (.ref f29) = true)
    (a30 : PySem.W.nsIn K mainGlobals "law" = some (some (.ref f30))) (l30 : K.lookup f30 = some ⟨oc30, od30, .func (PySem.W.fnOf "law" "law" (defArgs dLaw) (defBody dLaw) (defScope dLaw) .none kV30 dc30 pm30 an30 cd30 ct30), sl30⟩) (c30 : PySem.W.codeIn K cd30 "law" = true) (k30 : PySem.W.keepIn K (.ref f30) = true)
    (zp : PySem.W.nsIn K mainGlobals "MOST_PERSONS" = some (some (.int 8 tp))) (zv : PySem.W.nsIn K mainGlobals "MOST_VALUE" = some (some (.int 1000 tv)))
    (z1 : PySem.W.nsIn K mainGlobals "isinstance" = some none) (z2 : PySem.W.nsIn K mainGlobals "int" = some none) (z3 : PySem.W.nsIn K mainGlobals "bool" = some none) (z4 : PySem.W.nsIn K mainGlobals "tuple" = some none) (z5 : PySem.W.nsIn K mainGlobals "list" = some none) (z6 : PySem.W.nsIn K mainGlobals "str" = some none) (z7 : PySem.W.nsIn K mainGlobals "len" = some none) (z8 : PySem.W.nsIn K mainGlobals "all" = some none) (z9 : PySem.W.nsIn K mainGlobals "any" = some none) (z10 : PySem.W.nsIn K mainGlobals "enumerate" = some none) (z11 : PySem.W.nsIn K mainGlobals "range" = some none) (z12 : PySem.W.nsIn K mainGlobals "sorted" = some none) (z13 : PySem.W.nsIn K mainGlobals "min" = some none) (z14 : PySem.W.nsIn K mainGlobals "max" = some none) (z15 : PySem.W.nsIn K mainGlobals "set" = some none) :
    ∃ fd : FuncData, (∀ (s : Shared) (v : Value), BindsTo s fd ⟨[v], []⟩ [("_law_script", v)]) ∧ ∀ base : Heap, K.In base → base.Ns mainGlobals mg → FnOk l.prog w K mg base CX0 7 fa fd ["_law_script"] (spLaw K) := by
  have e := hfa.symm.trans (PySem.W.mg_of X G a30)
  cases e
  have B : Blt mg := ⟨PySem.W.mg_none_of X G z1, PySem.W.mg_none_of X G z2, PySem.W.mg_none_of X G z3, PySem.W.mg_none_of X G z4, PySem.W.mg_none_of X G z5, PySem.W.mg_none_of X G z6, PySem.W.mg_none_of X G z7, PySem.W.mg_none_of X G z8, PySem.W.mg_none_of X G z9, PySem.W.mg_none_of X G z10, PySem.W.mg_none_of X G z11, PySem.W.mg_none_of X G z12, PySem.W.mg_none_of X G z13, PySem.W.mg_none_of X G z14, PySem.W.mg_none_of X G z15⟩
  have Z : Cst mg := ⟨⟨tp, PySem.W.mg_of X G zp⟩, ⟨tv, PySem.W.mg_of X G zv⟩⟩
  have D1 : Stand K mg "is_int" dIsInt := ⟨f1, _, PySem.W.mg_of X G a1, fun_mk (st := dIsInt) l1 c1 k1⟩
  have D2 : Stand K mg "is_from" dIsFrom := ⟨f2, _, PySem.W.mg_of X G a2, fun_mk (st := dIsFrom) l2 c2 k2⟩
  have D3 : Stand K mg "is_tie" dIsTie := ⟨f3, _, PySem.W.mg_of X G a3, fun_mk (st := dIsTie) l3 c3 k3⟩
  have D4 : Stand K mg "need_web" dNeed := ⟨f4, _, PySem.W.mg_of X G a4, fun_mk (st := dNeed) l4 c4 k4⟩
  have D5 : Stand K mg "everybody" dEvb := ⟨f5, _, PySem.W.mg_of X G a5, fun_mk (st := dEvb) l5 c5 k5⟩
  have D6 : Stand K mg "tied_to" dTied := ⟨f6, _, PySem.W.mg_of X G a6, fun_mk (st := dTied) l6 c6 k6⟩
  have D7 : Stand K mg "hanging" dHang := ⟨f7, _, PySem.W.mg_of X G a7, fun_mk (st := dHang) l7 c7 k7⟩
  have D8 : Stand K mg "need_person" dNeedP := ⟨f8, _, PySem.W.mg_of X G a8, fun_mk (st := dNeedP) l8 c8 k8⟩
  have D9 : Stand K mg "parts_of" dParts := ⟨f9, _, PySem.W.mg_of X G a9, fun_mk (st := dParts) l9 c9 k9⟩
  have D10 : Stand K mg "others" dOthers := ⟨f10, _, PySem.W.mg_of X G a10, fun_mk (st := dOthers) l10 c10 k10⟩
  have D11 : Stand K mg "border_of" dBorder := ⟨f11, _, PySem.W.mg_of X G a11, fun_mk (st := dBorder) l11 c11 k11⟩
  have D12 : Stand K mg "least_of" dLeast := ⟨f12, _, PySem.W.mg_of X G a12, fun_mk (st := dLeast) l12 c12 k12⟩
  have D13 : Stand K mg "is_deep" dIsDeep := ⟨f13, _, PySem.W.mg_of X G a13, fun_mk (st := dIsDeep) l13 c13 k13⟩
  have D14 : Stand K mg "deep_of" dDeepOf := ⟨f14, _, PySem.W.mg_of X G a14, fun_mk (st := dDeepOf) l14 c14 k14⟩
  have D15 : Stand K mg "cost_of" dCost := ⟨f15, _, PySem.W.mg_of X G a15, fun_mk (st := dCost) l15 c15 k15⟩
  have D16 : Stand K mg "fewest_ties" dFew := ⟨f16, _, PySem.W.mg_of X G a16, fun_mk (st := dFew) l16 c16 k16⟩
  have D17 : Stand K mg "some_ties" dSome := ⟨f17, _, PySem.W.mg_of X G a17, fun_mk (st := dSome) l17 c17 k17⟩
  have D18 : Stand K mg "is_bridge" dIsBr := ⟨f18, _, PySem.W.mg_of X G a18, fun_mk (st := dIsBr) l18 c18 k18⟩
  have D19 : Stand K mg "bridges" dBrs := ⟨f19, _, PySem.W.mg_of X G a19, fun_mk (st := dBrs) l19 c19 k19⟩
  have D20 : Stand K mg "costs_without" dCW := ⟨f20, _, PySem.W.mg_of X G a20, fun_mk (st := dCW) l20 c20 k20⟩
  have D21 : Stand K mg "worst_numbers" dWorst := ⟨f21, _, PySem.W.mg_of X G a21, fun_mk (st := dWorst) l21 c21 k21⟩
  have D22 : Stand K mg "_law_taken" dTaken := ⟨f22, _, PySem.W.mg_of X G a22, fun_mk (st := dTaken) l22 c22 k22⟩
  have D23 : Stand K mg "_law_alike" dAlike := ⟨f23, _, PySem.W.mg_of X G a23, fun_mk (st := dAlike) l23 c23 k23⟩
  have D24 : Stand K mg "_law_web" dLWeb := ⟨f24, _, PySem.W.mg_of X G a24, fun_mk (st := dLWeb) l24 c24 k24⟩
  have D25 : Stand K mg "_law_ties" dLTies := ⟨f25, _, PySem.W.mg_of X G a25, fun_mk (st := dLTies) l25 c25 k25⟩
  have D26 : Stand K mg "_law_parts" dLParts := ⟨f26, _, PySem.W.mg_of X G a26, fun_mk (st := dLParts) l26 c26 k26⟩
  have D27 : Stand K mg "_law_rest" dRest := ⟨f27, _, PySem.W.mg_of X G a27, fun_mk (st := dRest) l27 c27 k27⟩
  have D28 : Stand K mg "_law_border" dLBorder := ⟨f28, _, PySem.W.mg_of X G a28, fun_mk (st := dLBorder) l28 c28 k28⟩
  have D29 : Stand K mg "_law_deep" dLDeep := ⟨f29, _, PySem.W.mg_of X G a29, fun_mk (st := dLDeep) l29 c29 k29⟩
  have F := fun_mk (st := dLaw) l30 c30 k30
  refine ⟨PySem.W.fnOf "law" "law" (defArgs dLaw) (defBody dLaw) (defScope dLaw) .none kV30 dc30 pm30 an30 cd30 ct30, fun s v => .of_eq rfl, fun base _ _ => ?_⟩
  have IsInt : Cal l.prog w K mg base 1 "is_int" spIsInt := cIsInt D1 B
  have IsFrom : Cal l.prog w K mg base 2 "is_from" spIsFrom := cIsFrom D2 IsInt
  have IsTie : Cal l.prog w K mg base 3 "is_tie" spIsTie := cIsTie D3 B IsFrom
  have Evb : Cal l.prog w K mg base 1 "everybody" spEvb := cEvb D5 B
  have NeedP : Cal l.prog w K mg base 3 "need_person" spNeedP := cNeedP D8 B IsFrom
  have Tied : Cal l.prog w K mg base 1 "tied_to" spTied := cTied D6 B
  have Others : Cal l.prog w K mg base 2 "others" spOthers := cOthers D10 B Evb
  have Least : Cal l.prog w K mg base 1 "least_of" spLeast := cLeast D12 B
  have Border : Cal l.prog w K mg base 2 "border_of" spBorder := cBorder D11 B Tied
  have Hang : Cal l.prog w K mg base 2 "hanging" spHang := cHang D7 B Tied
  have Parts : Cal l.prog w K mg base 3 "parts_of" spParts := cParts D9 B Hang
  have IsDeep : Cal l.prog w K mg base 3 "is_deep" spIsDeep := cIsDeep D13 B Least Border
  have DeepOf : Cal l.prog w K mg base 4 "deep_of" spDeepOf := cDeepOf D14 B Parts Others IsDeep
  have Cost : Cal l.prog w K mg base 5 "cost_of" spCost := cCost D15 B DeepOf
  have Need : Cal l.prog w K mg base 4 "need_web" spNeed := cNeed D4 B Z IsFrom IsTie Hang Evb
  have Few : Cal l.prog w K mg base 6 "fewest_ties" spFew := cFew D16 B Need NeedP Cost
  have Som : Cal l.prog w K mg base 5 "some_ties" spSome := cSome D17 B Need NeedP Parts Others Least
  have IsBr : Cal l.prog w K mg base 4 "is_bridge" spIsBr := cIsBr D18 B Parts Evb
  have Brs : Cal l.prog w K mg base 5 "bridges" spBrs := cBrs D19 B Need IsBr
  have CW : Cal l.prog w K mg base 6 "costs_without" spCW := cCW D20 B Need IsBr Cost Evb
  have Wst : Cal l.prog w K mg base 5 "worst_numbers" spWorst := cWorst D21 B Z Need NeedP Evb
  have LRest : Cal l.prog w K mg base 1 "_law_rest" spOthers := cRest D27 B
  have LTies : Cal l.prog w K mg base 1 "_law_ties" spTied := cLTies D25 B
  have LBorder : Cal l.prog w K mg base 2 "_law_border" spBorder := cLBorder D28 B LTies
  have LParts : Cal l.prog w K mg base 1 "_law_parts" spLParts := cLParts D26 B
  have LDeep : Cal l.prog w K mg base 3 "_law_deep" spLDeep := cLDeep D29 B LParts LRest LBorder
  have LTaken : Cal l.prog w K mg base 1 "_law_taken" (spTaken K) := cTaken D22 B
  have LAlike : Cal l.prog w K mg base 5 "_law_alike" (spAlike 4) := cAlike D23 B 4
  have LWeb : Cal l.prog w K mg base 2 "_law_web" (spLWeb K) := cLWeb D24 B LTaken
  exact okLaw F ⟨LTaken, LAlike, LWeb, LParts, LDeep, Few, Som, Brs, CW, Wst⟩ B
end K16
open PySem PySem.W PyProof.Rows
set_option maxRecDepth 100000 in
set_option maxHeartbeats 0 in
theorem PySem.Challenge.cw_duelwebs_k16_whole_ties_of_heads_holds : PySem.Challenge.rw_duelwebs_k16_whole_ties_of_heads.Holds := by
  w_on; o_law; k_head; (case hw => w_witness2)
  k_fill
  refine L2.walk_of (l := PySem.Challenge.rw_duelwebs_k16_whole_ties_of_heads) (n := 63) (k := 7) (x := "_law_script") (CX := fun _ => L2.CX0) (sp := fun w => K16.spLaw _) rfl (by decide) rfl ⟨rfl, by decide, by decide⟩ (fun w h Y => PySem.W.kIn_of Y) ?F (fun _ _ a ns hl _ hS => ⟨a, ns, rfl, hS, hl, fun _ => rfl⟩) (fun _ _ _ _ _ z => z)
  case F =>
    intro w mg fa h KX G hmg
    refine' K16.all_mk KX G hmg ?a1 ?l1 ?c1 ?k1 ?a2 ?l2 ?c2 ?k2 ?a3 ?l3 ?c3 ?k3 ?a4 ?l4 ?c4 ?k4 ?a5 ?l5 ?c5 ?k5 ?a6 ?l6 ?c6 ?k6 ?a7 ?l7 ?c7 ?k7 ?a8 ?l8 ?c8 ?k8 ?a9 ?l9 ?c9 ?k9 ?a10 ?l10 ?c10 ?k10 ?a11 ?l11 ?c11 ?k11 ?a12 ?l12 ?c12 ?k12 ?a13 ?l13 ?c13 ?k13 ?a14 ?l14 ?c14 ?k14 ?a15 ?l15 ?c15 ?k15 ?a16 ?l16 ?c16 ?k16 ?a17 ?l17 ?c17 ?k17 ?a18 ?l18 ?c18 ?k18 ?a19 ?l19 ?c19 ?k19 ?a20 ?l20 ?c20 ?k20 ?a21 ?l21 ?c21 ?k21 ?a22 ?l22 ?c22 ?k22 ?a23 ?l23 ?c23 ?k23 ?a24 ?l24 ?c24 ?k24 ?a25 ?l25 ?c25 ?k25 ?a26 ?l26 ?c26 ?k26 ?a27 ?l27 ?c27 ?k27 ?a28 ?l28 ?c28 ?k28 ?a29 ?l29 ?c29 ?k29 ?a30 ?l30 ?c30 ?k30 ?zp ?zv ?z1 ?z2 ?z3 ?z4 ?z5 ?z6 ?z7 ?z8 ?z9 ?z10 ?z11 ?z12 ?z13 ?z14 ?z15
    (case a1 => k_is); (case l1 => k_is); (case c1 => k_is); (case k1 => k_is)
    (case a2 => k_is); (case l2 => k_is); (case c2 => k_is); (case k2 => k_is)
    (case a3 => k_is); (case l3 => k_is); (case c3 => k_is); (case k3 => k_is)
    (case a4 => k_is); (case l4 => k_is); (case c4 => k_is); (case k4 => k_is)
    (case a5 => k_is); (case l5 => k_is); (case c5 => k_is); (case k5 => k_is)
    (case a6 => k_is); (case l6 => k_is); (case c6 => k_is); (case k6 => k_is)
    (case a7 => k_is); (case l7 => k_is); (case c7 => k_is); (case k7 => k_is)
    (case a8 => k_is); (case l8 => k_is); (case c8 => k_is); (case k8 => k_is)
    (case a9 => k_is); (case l9 => k_is); (case c9 => k_is); (case k9 => k_is)
    (case a10 => k_is); (case l10 => k_is); (case c10 => k_is); (case k10 => k_is)
    (case a11 => k_is); (case l11 => k_is); (case c11 => k_is); (case k11 => k_is)
    (case a12 => k_is); (case l12 => k_is); (case c12 => k_is); (case k12 => k_is)
    (case a13 => k_is); (case l13 => k_is); (case c13 => k_is); (case k13 => k_is)
    (case a14 => k_is); (case l14 => k_is); (case c14 => k_is); (case k14 => k_is)
    (case a15 => k_is); (case l15 => k_is); (case c15 => k_is); (case k15 => k_is)
    (case a16 => k_is); (case l16 => k_is); (case c16 => k_is); (case k16 => k_is)
    (case a17 => k_is); (case l17 => k_is); (case c17 => k_is); (case k17 => k_is)
    (case a18 => k_is); (case l18 => k_is); (case c18 => k_is); (case k18 => k_is)
    (case a19 => k_is); (case l19 => k_is); (case c19 => k_is); (case k19 => k_is)
    (case a20 => k_is); (case l20 => k_is); (case c20 => k_is); (case k20 => k_is)
    (case a21 => k_is); (case l21 => k_is); (case c21 => k_is); (case k21 => k_is)
    (case a22 => k_is); (case l22 => k_is); (case c22 => k_is); (case k22 => k_is)
    (case a23 => k_is); (case l23 => k_is); (case c23 => k_is); (case k23 => k_is)
    (case a24 => k_is); (case l24 => k_is); (case c24 => k_is); (case k24 => k_is)
    (case a25 => k_is); (case l25 => k_is); (case c25 => k_is); (case k25 => k_is)
    (case a26 => k_is); (case l26 => k_is); (case c26 => k_is); (case k26 => k_is)
    (case a27 => k_is); (case l27 => k_is); (case c27 => k_is); (case k27 => k_is)
    (case a28 => k_is); (case l28 => k_is); (case c28 => k_is); (case k28 => k_is)
    (case a29 => k_is); (case l29 => k_is); (case c29 => k_is); (case k29 => k_is)
    (case a30 => k_is); (case l30 => k_is); (case c30 => k_is); (case k30 => k_is)
    (case zp => k_is); (case zv => k_is)
    (case z1 => k_is); (case z2 => k_is); (case z3 => k_is); (case z4 => k_is); (case z5 => k_is); (case z6 => k_is); (case z7 => k_is); (case z8 => k_is); (case z9 => k_is); (case z10 => k_is); (case z11 => k_is); (case z12 => k_is); (case z13 => k_is); (case z14 => k_is); (case z15 => k_is)
