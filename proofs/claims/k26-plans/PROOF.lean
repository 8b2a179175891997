import PyProof.Rows.All
import Wide.All
import OpenK.AllK
import Wide.FinOn
import KE.SortData
import HandS.ForMost
import HandS.Exc
import HandS.Defaults
import HandS.HeadHook2
import KE.KStateDown
import HandS.Head0
import HandS.Head1
import HandS.Head2
import HandS.HeadEnd
import HandS.TupSets
import HandS.SetTxt0
import HandS.HotCalls
import HandS.SortKw
import KE.KDictKeyed
import KE.KeyNested
import HandS.DictTup
import HandS.TupLen
import KE.LtData
import KE.DataMinMax
import HandS.Flow
import HandS.Style
import HandS.Zip
import HandS.Deep
import HandS.Walk
import OpenK.KOps
import HandS.ExcBuiltin
import HandS.ExcInit
import HandS.TryOnly
import HandS.ClsMeth
import HandS.IsInst
import HandS.More
import PySem.Challenge.RW_pleachwall_k26_whole_plans_by_their_numb
set_option Elab.async false
section
set_option autoImplicit false
set_option linter.all false
/-! Plain mathematics 1: strict total orders on lists, sorted lists, the lots of a season. -/
namespace Pw
/-- a strict total order -/
class STO (α : Type) [LT α] : Prop where
  irr : ∀ a : α, ¬ a < a
  tr : ∀ {a b c : α}, a < b → b < c → a < c
  tri : ∀ a b : α, a < b ∨ a = b ∨ b < a
instance : STO Nat := ⟨Nat.lt_irrefl, Nat.lt_trans, Nat.lt_trichotomy⟩
section
variable {α β : Type} [LT α] [LT β]
theorem nil_lt (b : α) (bs : List α) : ([] : List α) < b :: bs := List.Lex.nil
theorem not_lt_nil (as : List α) : ¬ as < [] := fun h => by cases h
theorem cons_lt (a b : α) (as bs : List α) : a :: as < b :: bs ↔ a < b ∨ a = b ∧ as < bs := by
  constructor
  · intro h
    cases h with
    | rel h => exact .inl h
    | cons h => exact .inr ⟨rfl, h⟩
  · rintro (h | ⟨rfl, h⟩)
    · exact .rel h
    · exact .cons h
theorem list_irr [STO α] : ∀ a : List α, ¬ a < a
  | [] => not_lt_nil []
  | x :: r => fun h => by
    rcases (cons_lt x x r r).mp h with h | ⟨_, h⟩
    · exact STO.irr x h
    · exact list_irr r h
theorem list_tr [STO α] : ∀ {a b c : List α}, a < b → b < c → a < c
  | _, [], _, h, _ => absurd h (not_lt_nil _)
  | _, _ :: _, [], _, h => absurd h (not_lt_nil _)
  | [], _ :: _, z :: c, _, _ => nil_lt z c
  | x :: a, y :: b, z :: c, h, k => by
    rcases (cons_lt x y a b).mp h with h1 | ⟨e1, h1⟩
    · rcases (cons_lt y z b c).mp k with k1 | ⟨e2, k1⟩
      · exact (cons_lt _ _ _ _).mpr (.inl (STO.tr h1 k1))
      · exact (cons_lt _ _ _ _).mpr (.inl (e2 ▸ h1))
    · rcases (cons_lt y z b c).mp k with k1 | ⟨e2, k1⟩
      · exact (cons_lt _ _ _ _).mpr (.inl (e1 ▸ k1))
      · exact (cons_lt _ _ _ _).mpr (.inr ⟨e1.trans e2, list_tr h1 k1⟩)
theorem list_tri [STO α] : ∀ a b : List α, a < b ∨ a = b ∨ b < a
  | [], [] => .inr (.inl rfl)
  | [], y :: b => .inl (nil_lt y b)
  | x :: a, [] => .inr (.inr (nil_lt x a))
  | x :: a, y :: b => by
    rcases STO.tri x y with h | rfl | h
    · exact .inl ((cons_lt _ _ _ _).mpr (.inl h))
    · rcases list_tri a b with h | rfl | h
      · exact .inl ((cons_lt _ _ _ _).mpr (.inr ⟨rfl, h⟩))
      · exact .inr (.inl rfl)
      · exact .inr (.inr ((cons_lt _ _ _ _).mpr (.inr ⟨rfl, h⟩)))
    · exact .inr (.inr ((cons_lt _ _ _ _).mpr (.inl h)))
instance [STO α] : STO (List α) := ⟨list_irr, list_tr, list_tri⟩
instance pairLT : LT (α × β) := ⟨fun p q => p.1 < q.1 ∨ p.1 = q.1 ∧ p.2 < q.2⟩
instance pairDec [DecidableEq α] [DecidableLT α] [DecidableLT β] : DecidableLT (α × β) := fun p q => inferInstanceAs (Decidable (p.1 < q.1 ∨ p.1 = q.1 ∧ p.2 < q.2))
theorem pair_lt (p q : α × β) : p < q ↔ p.1 < q.1 ∨ p.1 = q.1 ∧ p.2 < q.2 := Iff.rfl
instance [STO α] [STO β] : STO (α × β) where
  irr := fun p h => by
    rcases (pair_lt p p).mp h with h | ⟨_, h⟩
    · exact STO.irr _ h
    · exact STO.irr _ h
  tr := fun {p q r} h k => by
    refine (pair_lt p r).mpr ?_
    rcases (pair_lt p q).mp h with h | ⟨e, h⟩
    · rcases (pair_lt q r).mp k with k | ⟨f, k⟩
      · exact .inl (STO.tr h k)
      · exact .inl (f ▸ h)
    · rcases (pair_lt q r).mp k with k | ⟨f, k⟩
      · exact .inl (e ▸ k)
      · exact .inr ⟨e.trans f, STO.tr h k⟩
  tri := fun p q => by
    rcases STO.tri p.1 q.1 with h | h | h
    · exact .inl (.inl h)
    · rcases STO.tri p.2 q.2 with k | k | k
      · exact .inl (.inr ⟨h, k⟩)
      · exact .inr (.inl (Prod.ext h k))
      · exact .inr (.inr (.inr ⟨h.symm, k⟩))
    · exact .inr (.inr (.inl h))
theorem lt_asym [STO α] {a b : α} (h : a < b) : ¬ b < a := fun k => STO.irr a (STO.tr h k)
theorem lt_ne [STO α] {a b : α} (h : a < b) : a ≠ b := fun e => STO.irr a (by rw [← e] at h; exact h)
end
/-- rising, each once -/
def Up {α : Type} [LT α] (l : List α) : Prop := l.Pairwise (· < ·)
section
variable {α β : Type} [LT α] [STO α] [LT β] [STO β]
theorem Up.nodup {l : List α} (h : Up l) : l.Nodup := List.Pairwise.imp (fun k => lt_ne k) h
theorem Up.tail {a : α} {l : List α} (h : Up (a :: l)) : Up l := (List.pairwise_cons.mp h).2
theorem Up.head {a : α} {l : List α} (h : Up (a :: l)) : ∀ b ∈ l, a < b := (List.pairwise_cons.mp h).1
theorem Up.sub {l m : List α} (h : Up m) (s : l.Sublist m) : Up l := List.Pairwise.sublist s h
/-- a rising list is told by its members -/
theorem Up.ext : ∀ {l m : List α}, Up l → Up m → (∀ x, x ∈ l ↔ x ∈ m) → l = m
  | [], [], _, _, _ => rfl
  | [], y :: m, _, _, h => nomatch (h y).mpr List.mem_cons_self
  | x :: l, [], _, _, h => nomatch (h x).mp List.mem_cons_self
  | x :: l, y :: m, hl, hm, h => by
    have e : x = y := by
      rcases List.mem_cons.mp ((h x).mp List.mem_cons_self) with e | hx
      · exact e
      · rcases List.mem_cons.mp ((h y).mpr List.mem_cons_self) with e | hy
        · exact e.symm
        · exact absurd (hl.head y hy) (lt_asym (hm.head x hx))
    subst e
    congr 1
    refine Up.ext hl.tail hm.tail fun z => ⟨fun hz => ?_, fun hz => ?_⟩
    · rcases List.mem_cons.mp ((h z).mp (List.mem_cons_of_mem _ hz)) with e | k
      · exact absurd e (lt_ne (hl.head z hz)).symm
      · exact k
    · rcases List.mem_cons.mp ((h z).mpr (List.mem_cons_of_mem _ hz)) with e | k
      · exact absurd e (lt_ne (hm.head z hz)).symm
      · exact k
/-- members of a rising list, rising: a sublist -/
theorem Up.sublist : ∀ {m l : List α}, Up l → Up m → (∀ x ∈ l, x ∈ m) → l.Sublist m
  | [], [], _, _, _ => .slnil
  | [], x :: l, _, _, h => nomatch h x List.mem_cons_self
  | y :: m, [], _, _, _ => List.nil_sublist _
  | y :: m, x :: l, hl, hm, h => by
    by_cases e : x = y
    · subst e
      refine .cons_cons _ (Up.sublist hl.tail hm.tail fun z hz => ?_)
      rcases List.mem_cons.mp (h z (List.mem_cons_of_mem _ hz)) with e | k
      · exact absurd e (lt_ne (hl.head z hz)).symm
      · exact k
    · have hx : x ∈ m := by
        rcases List.mem_cons.mp (h x List.mem_cons_self) with q | q
        · exact absurd q e
        · exact q
      refine .cons _ (Up.sublist hl hm.tail fun z hz => ?_)
      rcases List.mem_cons.mp (h z hz) with q | q
      · subst q
        rcases List.mem_cons.mp hz with q | q
        · exact absurd q.symm e
        · exact absurd (hl.head _ q) (lt_asym (hm.head _ hx))
      · exact q
theorem Up.map {f : α → β} {l : List α} (h : Up l) (hf : ∀ a ∈ l, ∀ b ∈ l, a < b → f a < f b) : Up (l.map f) := by
  unfold Up
  rw [List.pairwise_map]
  exact List.Pairwise.imp_of_mem (fun {a b} ha hb k => hf a ha b hb k) h
end
section
variable {α : Type} [LT α] [STO α] [DecidableLT α]
/-- the order by which Python sorts -/
def leB (a b : α) : Bool := !decide (b < a)
theorem leB_trans (a b c : α) (h : leB a b = true) (k : leB b c = true) : leB a c = true := by
  unfold leB at *
  simp only [Bool.not_eq_true', decide_eq_false_iff_not] at *
  intro q
  rcases STO.tri a b with x | rfl | x
  · exact k (STO.tr q x)
  · exact k q
  · exact h x
theorem leB_total (a b : α) : (leB a b || leB b a) = true := by
  unfold leB
  by_cases h : b < a
  · simp [h, lt_asym h]
  · simp [h]
def srt (l : List α) : List α := l.mergeSort leB
theorem mem_srt {l : List α} {x : α} : x ∈ srt l ↔ x ∈ l := List.mem_mergeSort
theorem srt_len (l : List α) : (srt l).length = l.length := List.length_mergeSort l
theorem srt_up {l : List α} (h : l.Nodup) : Up (srt l) := by
  have s := List.pairwise_mergeSort (le := leB) leB_trans leB_total l
  have n : (srt l).Nodup := (List.mergeSort_perm l leB).nodup_iff.mpr h
  unfold Up
  refine List.Pairwise.imp (S := fun a b => a < b) (fun {a b} (z : leB a b = true ∧ a ≠ b) => ?_) (List.pairwise_and_iff.mpr ⟨s, n⟩)
  obtain ⟨z1, z2⟩ := z
  unfold leB at z1
  simp only [Bool.not_eq_true', decide_eq_false_iff_not] at z1
  rcases STO.tri a b with x | x | x
  · exact x
  · exact absurd x z2
  · exact absurd x z1
theorem srt_of_up {l : List α} (h : Up l) : srt l = l := Up.ext (srt_up h.nodup) h fun _ => mem_srt
end
/-! ### lots -/
section
variable {α β : Type}
/-- all sublists of at most k items, as they are made -/
def subs (k : Nat) (l : List α) : List (List α) := l.foldl (fun found x => found ++ (found.filter fun m => decide (m.length < k)).map fun m => m ++ [x]) [[]]
theorem subs_more (k : Nat) (l : List α) (x : α) : subs k (l ++ [x]) = subs k l ++ ((subs k l).filter fun m => decide (m.length < k)).map fun m => m ++ [x] := by
  unfold subs
  rw [List.foldl_append]
  rfl
theorem sublist_snoc {m l : List α} {x : α} : m.Sublist (l ++ [x]) ↔ m.Sublist l ∨ ∃ n, m = n ++ [x] ∧ n.Sublist l := by
  rw [List.sublist_append_iff]
  constructor
  · rintro ⟨a, b, rfl, ha, hb⟩
    cases hb with
    | cons _ hb =>
      rw [List.sublist_nil.mp hb]
      exact .inl (by rw [List.append_nil]; exact ha)
    | cons_cons _ hb =>
      rw [List.sublist_nil.mp hb]
      exact .inr ⟨a, rfl, ha⟩
  · rintro (h | ⟨n, rfl, h⟩)
    · exact ⟨m, [], (List.append_nil m).symm, h, List.nil_sublist _⟩
    · exact ⟨n, [x], rfl, h, List.Sublist.refl _⟩
theorem rev_ind {P : List α → Prop} (h0 : P []) (h1 : ∀ l x, P l → P (l ++ [x])) (l : List α) : P l := by
  have key : ∀ n, ∀ l : List α, l.length = n → P l := by
    intro n
    induction n with
    | zero => intro l e; rw [List.eq_nil_of_length_eq_zero e]; exact h0
    | succ n ih =>
      intro l e
      have hne : l ≠ [] := fun z => by rw [z] at e; cases e
      rw [← List.dropLast_concat_getLast hne]
      exact h1 _ _ (ih _ (by rw [List.length_dropLast, e]; rfl))
  exact key _ l rfl
theorem mem_subs (k : Nat) (l : List α) : ∀ m, m ∈ subs k l ↔ m.Sublist l ∧ m.length ≤ k := by
  refine rev_ind (P := fun l => ∀ m, m ∈ subs k l ↔ m.Sublist l ∧ m.length ≤ k) (fun m => ?_) (fun l x ih m => ?_) l
  · show m ∈ [[]] ↔ _
    rw [List.mem_singleton, List.sublist_nil]
    exact ⟨fun e => ⟨e, by rw [e]; exact Nat.zero_le _⟩, fun e => e.1⟩
  · rw [subs_more, List.mem_append, List.mem_map, sublist_snoc, ih m]
    constructor
    · rintro (h | ⟨n, hn, rfl⟩)
      · exact ⟨.inl h.1, h.2⟩
      · obtain ⟨h1, h2⟩ := List.mem_filter.mp hn
        have h3 := (ih n).mp h1
        have h4 : n.length < k := of_decide_eq_true h2
        exact ⟨.inr ⟨n, rfl, h3.1⟩, by rw [List.length_append]; exact h4⟩
    · rintro ⟨h | ⟨n, rfl, h⟩, hl⟩
      · exact .inl ⟨h, hl⟩
      · rw [List.length_append] at hl
        have hl' : n.length < k := hl
        exact .inr ⟨n, List.mem_filter.mpr ⟨(ih n).mpr ⟨h, Nat.le_of_lt hl'⟩, decide_eq_true hl'⟩, rfl⟩
theorem subs_head (k : Nat) (l : List α) : ∃ r, subs k l = [] :: r := by
  refine rev_ind (P := fun l => ∃ r, subs k l = [] :: r) ⟨[], rfl⟩ (fun l x ih => ?_) l
  obtain ⟨r, e⟩ := ih
  rw [subs_more, e]
  exact ⟨_, rfl⟩
theorem subs_nodup (k : Nat) (l : List α) : l.Nodup → (subs k l).Nodup := by
  refine rev_ind (P := fun l => l.Nodup → (subs k l).Nodup) (fun _ => by show [[]].Nodup; simp) (fun l x ih h => ?_) l
  have hl := (List.nodup_append.mp h).1
  have hx : x ∉ l := fun hx => (List.nodup_append.mp h).2.2 x hx x (List.mem_singleton.mpr rfl) rfl
  rw [subs_more, List.nodup_append]
  refine ⟨ih hl, ?_, fun a ha b hb e => ?_⟩
  · unfold List.Nodup
    rw [List.pairwise_map]
    exact List.Pairwise.imp (fun {a b} h e => h (List.append_cancel_right e)) ((ih hl).sublist List.filter_sublist)
  · obtain ⟨n, _, rfl⟩ := List.mem_map.mp hb
    have h1 := ((mem_subs k l a).mp ha).1
    exact hx (h1.subset (by rw [e]; exact List.mem_append_right _ (List.mem_singleton.mpr rfl)))
theorem subs_map (f : α → β) (k : Nat) (l : List α) : subs k (l.map f) = (subs k l).map (List.map f) := by
  refine rev_ind (P := fun l => subs k (l.map f) = (subs k l).map (List.map f)) rfl (fun l x ih => ?_) l
  rw [List.map_append, List.map_singleton, subs_more, subs_more, ih, List.map_append, List.filter_map, List.map_map, List.map_map]
  congr 1
  have e1 : ((fun m : List β => decide (m.length < k)) ∘ List.map f) = fun m : List α => decide (m.length < k) := by
    funext m
    simp
  rw [e1]
  congr 1
  funext m
  simp
variable [LT α] [STO α] [DecidableEq α] [DecidableLT α] [LT β] [STO β] [DecidableEq β] [DecidableLT β]
/-- the lots of a season, rising -/
def lots (k : Nat) (l : List α) : List (List α) := srt (subs k l).tail
theorem mem_lots {k : Nat} {l : List α} (h : l.Nodup) {m : List α} : m ∈ lots k l ↔ m.Sublist l ∧ m.length ≤ k ∧ m ≠ [] := by
  unfold lots
  rw [mem_srt]
  obtain ⟨r, e⟩ := subs_head k l
  have nd := subs_nodup k l h
  have hm := mem_subs k l m
  rw [e] at nd hm ⊢
  rw [List.tail_cons]
  have hn := (List.nodup_cons.mp nd).1
  constructor
  · intro hr
    have := hm.mp (List.mem_cons_of_mem _ hr)
    exact ⟨this.1, this.2, fun z => hn (by rw [z] at hr; exact hr)⟩
  · rintro ⟨h1, h2, h3⟩
    rcases List.mem_cons.mp (hm.mpr ⟨h1, h2⟩) with z | z
    · exact absurd z h3
    · exact z
theorem lots_up {k : Nat} {l : List α} (h : l.Nodup) : Up (lots k l) := srt_up (by
  obtain ⟨r, e⟩ := subs_head k l
  have nd := subs_nodup k l h
  rw [e] at nd ⊢
  exact (List.nodup_cons.mp nd).2)
theorem map_lt {f : α → β} : ∀ {a b : List α}, (∀ x ∈ a, ∀ y ∈ b, (x < y → f x < f y)) → a < b → a.map f < b.map f
  | _, [], _, h => absurd h (not_lt_nil _)
  | [], y :: b, _, _ => nil_lt _ _
  | x :: a, y :: b, hf, h => by
    rcases (cons_lt x y a b).mp h with h1 | ⟨e1, h1⟩
    · exact (cons_lt _ _ _ _).mpr (.inl (hf x List.mem_cons_self y List.mem_cons_self h1))
    · exact (cons_lt _ _ _ _).mpr (.inr ⟨congrArg f e1, map_lt (fun u hu v hv => hf u (List.mem_cons_of_mem _ hu) v (List.mem_cons_of_mem _ hv)) h1⟩)
/-- lots by another name of the items, that keeps their order -/
theorem lots_map {f : α → β} {k : Nat} {l : List α} (h : l.Nodup) (hf : ∀ a ∈ l, ∀ b ∈ l, a < b → f a < f b) (hm : (l.map f).Nodup) : lots k (l.map f) = (lots k l).map (List.map f) := by
  refine Up.ext (lots_up hm) ((lots_up h).map fun a ha b hb k => map_lt (fun x hx y hy => hf x (((mem_lots h).mp ha).1.subset hx) y (((mem_lots h).mp hb).1.subset hy)) k) fun m => ?_
  rw [mem_lots hm, List.mem_map]
  constructor
  · rintro ⟨h1, h2, h3⟩
    obtain ⟨n, hn, rfl⟩ := List.sublist_map_iff.mp h1
    rw [List.length_map] at h2
    exact ⟨n, (mem_lots h).mpr ⟨hn, h2, fun z => h3 (by rw [z]; rfl)⟩, rfl⟩
  · rintro ⟨n, hn, rfl⟩
    obtain ⟨h1, h2, h3⟩ := (mem_lots h).mp hn
    exact ⟨h1.map f, by rw [List.length_map]; exact h2, fun z => h3 (List.map_eq_nil_iff.mp z)⟩
end
end Pw
end
section
set_option autoImplicit false
set_option linter.all false
/-! Plain mathematics 2: plans by seasons, their order, the place of a plan; the same by the numbers of the lacking items. -/
namespace Pw
section
variable {α : Type} [LT α] [STO α] [DecidableEq α] [DecidableLT α] (par : α → α) (k : Nat)
def ready (st left : List α) : List α := left.filter fun s => decide (par s ∈ st)
def wo (left lot : List α) : List α := left.filter fun s => !decide (s ∈ lot)
def plans : Nat → List α → List α → List (List (List α))
  | 0, _, left => if left = [] then [[]] else []
  | n + 1, st, left => if left = [] then [] else (lots k (ready par st left)).flatMap fun lot => (plans n (st ++ lot) (wo left lot)).map fun r => lot :: r
theorem plans_zero (st left : List α) : plans par k 0 st left = if left = [] then [[]] else [] := rfl
theorem plans_nil (n : Nat) (st : List α) : plans par k n st [] = if n = 0 then [[]] else [] := by
  cases n with
  | zero => rfl
  | succ n => rfl
theorem plans_succ (n : Nat) (st : List α) {left : List α} (h : left ≠ []) : plans par k (n + 1) st left = (lots k (ready par st left)).flatMap fun lot => (plans par k n (st ++ lot) (wo left lot)).map fun r => lot :: r := by
  show (if left = [] then [] else _) = _
  rw [if_neg h]
theorem ready_st {st st' : List α} (h : ∀ x, x ∈ st ↔ x ∈ st') (left : List α) : ready par st left = ready par st' left := by
  unfold ready
  congr 1
  funext s
  exact decide_eq_decide.mpr (h _)
theorem plans_st : ∀ (n : Nat) {st st' : List α} (h : ∀ x, x ∈ st ↔ x ∈ st') (left : List α), plans par k n st left = plans par k n st' left
  | 0, _, _, _, _ => rfl
  | n + 1, st, st', h, left => by
    by_cases e : left = []
    · subst e; rw [plans_nil, plans_nil]
    · rw [plans_succ par k n st e, plans_succ par k n st' e, ready_st par h]
      congr 1
      funext lot
      rw [plans_st n (st := st ++ lot) (st' := st' ++ lot) (fun x => by rw [List.mem_append, List.mem_append, h x])]
theorem ready_up {st left : List α} (h : Up left) : Up (ready par st left) := h.sub List.filter_sublist
theorem wo_up {left lot : List α} (h : Up left) : Up (wo left lot) := h.sub List.filter_sublist
theorem mem_ready {st left : List α} {s : α} : s ∈ ready par st left ↔ s ∈ left ∧ par s ∈ st := by
  unfold ready
  rw [List.mem_filter, decide_eq_true_iff]
theorem mem_wo {left lot : List α} {s : α} : s ∈ wo left lot ↔ s ∈ left ∧ s ∉ lot := by
  unfold wo
  rw [List.mem_filter]
  simp
/-- what a plan's seasons ought to be -/
def Good : List α → List α → List (List α) → Prop
  | _, left, [] => left = []
  | st, left, m :: P => (m ≠ [] ∧ m.length ≤ k ∧ Up m ∧ ∀ s ∈ m, s ∈ left ∧ par s ∈ st) ∧ Good (st ++ m) (wo left m) P
theorem mem_lots_ready {st left m : List α} (h : Up left) : m ∈ lots k (ready par st left) ↔ (m ≠ [] ∧ m.length ≤ k ∧ Up m ∧ ∀ s ∈ m, s ∈ left ∧ par s ∈ st) := by
  have hr := ready_up par (st := st) h
  rw [mem_lots hr.nodup]
  constructor
  · rintro ⟨h1, h2, h3⟩
    exact ⟨h3, h2, hr.sub h1, fun s hs => (mem_ready par).mp (h1.subset hs)⟩
  · rintro ⟨h1, h2, h3, h4⟩
    exact ⟨Up.sublist h3 hr fun s hs => (mem_ready par).mpr (h4 s hs), h2, h1⟩
theorem mem_plans : ∀ (n : Nat) {st left : List α} (h : Up left) (P : List (List α)), P ∈ plans par k n st left ↔ P.length = n ∧ Good par k st left P
  | 0, st, left, h, P => by
    rw [plans_zero]
    by_cases e : left = []
    · rw [if_pos e, List.mem_singleton]
      constructor
      · rintro rfl; exact ⟨rfl, e⟩
      · rintro ⟨h1, _⟩; exact List.eq_nil_of_length_eq_zero h1
    · rw [if_neg e]
      constructor
      · intro z; cases z
      · rintro ⟨h1, h2⟩
        rw [List.eq_nil_of_length_eq_zero h1] at h2
        exact absurd h2 e
  | n + 1, st, left, h, P => by
    by_cases e : left = []
    · rw [e, plans_nil, if_neg (Nat.succ_ne_zero n)]
      constructor
      · intro z; cases z
      · rintro ⟨h1, h2⟩
        cases P with
        | nil => cases h1
        | cons m P =>
          obtain ⟨⟨h3, _, _, h4⟩, _⟩ := h2
          cases m with
          | nil => exact absurd rfl h3
          | cons x m => exact nomatch (h4 x List.mem_cons_self).1
    · rw [plans_succ par k n st e, List.mem_flatMap]
      constructor
      · rintro ⟨m, hm, hP⟩
        obtain ⟨r, hr, rfl⟩ := List.mem_map.mp hP
        obtain ⟨h1, h2⟩ := (mem_plans n (wo_up h) r).mp hr
        exact ⟨by rw [List.length_cons, h1], (mem_lots_ready par k h).mp hm, h2⟩
      · rintro ⟨h1, h2⟩
        cases P with
        | nil => cases h1
        | cons m P =>
          exact ⟨m, (mem_lots_ready par k h).mpr h2.1, List.mem_map.mpr ⟨P, (mem_plans n (wo_up h) P).mpr ⟨Nat.succ.inj h1, h2.2⟩, rfl⟩⟩
theorem up_flat {β : Type} [LT β] [STO β] {γ : Type} [LT γ] [STO γ] (F : β → List γ) : ∀ {l : List β}, Up l → (∀ b ∈ l, Up (F b)) → (∀ b ∈ l, ∀ c ∈ l, b < c → ∀ x ∈ F b, ∀ y ∈ F c, x < y) → Up (l.flatMap F)
  | [], _, _, _ => List.Pairwise.nil
  | b :: l, h, h1, h2 => by
    rw [List.flatMap_cons]
    unfold Up
    rw [List.pairwise_append]
    refine ⟨h1 b List.mem_cons_self, up_flat F h.tail (fun c hc => h1 c (List.mem_cons_of_mem _ hc)) (fun c hc d hd => h2 c (List.mem_cons_of_mem _ hc) d (List.mem_cons_of_mem _ hd)), fun x hx y hy => ?_⟩
    obtain ⟨c, hc, hy⟩ := List.mem_flatMap.mp hy
    exact h2 b List.mem_cons_self c (List.mem_cons_of_mem _ hc) (h.head c hc) x hx y hy
theorem plans_up : ∀ (n : Nat) {st left : List α}, Up left → Up (plans par k n st left)
  | 0, st, left, h => by
    rw [plans_zero]
    split
    · exact List.pairwise_singleton _ _
    · exact List.Pairwise.nil
  | n + 1, st, left, h => by
    by_cases e : left = []
    · rw [e, plans_nil, if_neg (Nat.succ_ne_zero n)]; exact List.Pairwise.nil
    · rw [plans_succ par k n st e]
      refine up_flat _ (lots_up (ready_up par h).nodup) (fun m _ => ?_) fun b _ c _ hbc x hx y hy => ?_
      · exact (plans_up n (wo_up h)).map fun a _ b _ hab => (cons_lt _ _ _ _).mpr (.inr ⟨rfl, hab⟩)
      · obtain ⟨r, _, rfl⟩ := List.mem_map.mp hx
        obtain ⟨r', _, rfl⟩ := List.mem_map.mp hy
        exact (cons_lt _ _ _ _).mpr (.inl hbc)
/-! ### places in a joined list -/
theorem flat_step {β γ : Type} (F : β → List γ) (b : β) (l : List β) (n : Nat) : ((b :: l).flatMap F)[n]? = if n < (F b).length then (F b)[n]? else (l.flatMap F)[n - (F b).length]? := by
  rw [List.flatMap_cons, List.getElem?_append]
/-- how many stand ahead of a lot -/
def ahead {β γ : Type} [LT β] [DecidableLT β] (F : β → List γ) (l : List β) (m : β) : Nat := ((l.filter fun b => decide (b < m)).map fun b => (F b).length).sum
theorem ahead_get {β γ : Type} [LT β] [STO β] [DecidableLT β] (F : β → List γ) : ∀ {l : List β} {m : β} (j : Nat), Up l → m ∈ l → j < (F m).length → (l.flatMap F)[ahead F l m + j]? = (F m)[j]?
  | b :: l, m, j, h, hm, hj => by
    rw [flat_step]
    rcases List.mem_cons.mp hm with rfl | hm'
    · have e : ahead F (m :: l) m = 0 := by
        unfold ahead
        have : (m :: l).filter (fun b => decide (b < m)) = [] := by
          rw [List.filter_eq_nil_iff]
          intro b hb
          rw [decide_eq_true_iff]
          rcases List.mem_cons.mp hb with rfl | hb
          · exact STO.irr _
          · exact lt_asym (h.head b hb)
        rw [this]; rfl
      rw [e, Nat.zero_add, if_pos hj]
    · have e : ahead F (b :: l) m = (F b).length + ahead F l m := by
        unfold ahead
        rw [List.filter_cons_of_pos (by rw [decide_eq_true_iff]; exact h.head m hm'), List.map_cons, List.sum_cons]
      rw [e, if_neg (by omega), show (F b).length + ahead F l m + j - (F b).length = ahead F l m + j by omega]
      exact ahead_get F j h.tail hm' hj
end
/-! ### by numbers -/
section
variable {α : Type} [LT α] [STO α] [DecidableEq α] [DecidableLT α] (par : α → α) (k : Nat)
/-- lacking items f 0 < f 1 < .. < f (n - 1); B: the number of what is beneath, or none where it stands -/
structure Num (st : List α) (n : Nat) (f : Nat → α) (B : Nat → Option Nat) : Prop where
  up : ∀ i j, i < j → j < n → f i < f j
  none_ : ∀ i, i < n → B i = none → par (f i) ∈ st
  some_ : ∀ i j, i < n → B i = some j → j < n ∧ f j = par (f i) ∧ par (f i) ∉ st
variable {par} {st : List α} {n : Nat} {f : Nat → α} {B : Nat → Option Nat}
theorem Num.inj (N : Num par st n f B) {i j : Nat} (hi : i < n) (hj : j < n) (e : f i = f j) : i = j := by
  rcases Nat.lt_trichotomy i j with h | h | h
  · exact absurd e (lt_ne (N.up i j h hj))
  · exact h
  · exact absurd e.symm (lt_ne (N.up j i h hi))
def pick (n : Nat) (p : Nat → Bool) : List Nat := (List.range n).filter p
theorem mem_pick {n : Nat} {p : Nat → Bool} {i : Nat} : i ∈ pick n p ↔ i < n ∧ p i = true := by
  unfold pick
  rw [List.mem_filter, List.mem_range]
theorem pick_up (n : Nat) (p : Nat → Bool) : Up (pick n p) := Up.sub (List.pairwise_lt_range) List.filter_sublist
/-- those that lack still, those that have grown -/
def leftI (n : Nat) (f : Nat → α) (D : Nat → Bool) : List α := (pick n fun i => !D i).map f
def doneI (n : Nat) (f : Nat → α) (D : Nat → Bool) : List α := (pick n D).map f
def readyI (n : Nat) (B : Nat → Option Nat) (D : Nat → Bool) : List Nat := pick n fun i => !D i && (match B i with | none => true | some j => D j)
/-- what has grown behind a lot -/
def plus (D : Nat → Bool) (lot : List Nat) : Nat → Bool := fun i => D i || decide (i ∈ lot)
theorem Num.mapUp (N : Num par st n f B) {l : List Nat} (h : Up l) (hl : ∀ i ∈ l, i < n) : Up (l.map f) := h.map fun a _ b hb hab => N.up a b hab (hl b hb)
theorem Num.leftUp (N : Num par st n f B) (D : Nat → Bool) : Up (leftI n f D) := N.mapUp (pick_up _ _) fun i hi => (mem_pick.mp hi).1
theorem Num.ready (N : Num par st n f B) (D : Nat → Bool) : ready par (st ++ doneI n f D) (leftI n f D) = (readyI n B D).map f := by
  unfold Pw.ready leftI readyI pick
  rw [List.filter_map, List.filter_filter]
  congr 1
  refine List.filter_congr fun i hi => ?_
  have hin : i < n := List.mem_range.mp hi
  show (decide (par (f i) ∈ st ++ doneI n f D) && !D i) = _
  rw [Bool.and_comm]
  congr 1
  cases e : B i with
  | none =>
    have h := N.none_ i hin e
    show _ = true
    rw [decide_eq_true_iff]
    exact List.mem_append_left _ h
  | some j =>
    obtain ⟨hj, ej, hn⟩ := N.some_ i j hin e
    show _ = D j
    rw [Bool.eq_iff_iff, decide_eq_true_iff, List.mem_append]
    constructor
    · rintro (h | h)
      · exact absurd h hn
      · obtain ⟨i', hi', e'⟩ := List.mem_map.mp h
        obtain ⟨h1, h2⟩ := mem_pick.mp hi'
        rw [← ej] at e'
        rw [← N.inj h1 hj e']
        exact h2
    · intro h
      exact .inr (List.mem_map.mpr ⟨j, mem_pick.mpr ⟨hj, h⟩, ej⟩)
theorem Num.lots (N : Num par st n f B) (D : Nat → Bool) : lots k (Pw.ready par (st ++ doneI n f D) (leftI n f D)) = (lots k (readyI n B D)).map (List.map f) := by
  rw [N.ready D]
  have hl : ∀ i ∈ readyI n B D, i < n := fun i hi => (mem_pick.mp hi).1
  exact lots_map (pick_up _ _).nodup (fun a _ b hb hab => N.up a b hab (hl b hb)) (N.mapUp (pick_up _ _) hl).nodup
theorem lot_lt {D : Nat → Bool} {lot : List Nat} (h : lot ∈ lots k (readyI n B D)) : ∀ i ∈ lot, i < n := fun i hi =>
  (mem_pick.mp (((mem_lots (pick_up _ _).nodup).mp h).1.subset hi)).1
theorem Num.memLot (N : Num par st n f B) {lot : List Nat} (hl : ∀ i ∈ lot, i < n) {i : Nat} (hi : i < n) : f i ∈ lot.map f ↔ i ∈ lot := by
  constructor
  · intro h
    obtain ⟨j, hj, e⟩ := List.mem_map.mp h
    rw [← N.inj (hl j hj) hi e]
    exact hj
  · intro h
    exact List.mem_map.mpr ⟨i, h, rfl⟩
theorem Num.left (N : Num par st n f B) (D : Nat → Bool) {lot : List Nat} (hl : ∀ i ∈ lot, i < n) : wo (leftI n f D) (lot.map f) = leftI n f (plus D lot) := by
  unfold wo leftI pick
  rw [List.filter_map, List.filter_filter]
  congr 1
  refine List.filter_congr fun i hi => ?_
  have hin : i < n := List.mem_range.mp hi
  show (!decide (f i ∈ lot.map f) && !D i) = !(D i || decide (i ∈ lot))
  rw [show decide (f i ∈ lot.map f) = decide (i ∈ lot) from decide_eq_decide.mpr (N.memLot hl hin), Bool.not_or, Bool.and_comm]
theorem Num.done (N : Num par st n f B) (D : Nat → Bool) {lot : List Nat} (hl : ∀ i ∈ lot, i < n) (x : α) : x ∈ (st ++ doneI n f D) ++ lot.map f ↔ x ∈ st ++ doneI n f (plus D lot) := by
  rw [List.mem_append, List.mem_append, List.mem_append, or_assoc]
  refine or_congr Iff.rfl ?_
  constructor
  · rintro (h | h)
    · obtain ⟨i, hi, rfl⟩ := List.mem_map.mp h
      obtain ⟨h1, h2⟩ := mem_pick.mp hi
      exact List.mem_map.mpr ⟨i, mem_pick.mpr ⟨h1, by unfold plus; rw [h2]; rfl⟩, rfl⟩
    · obtain ⟨i, hi, rfl⟩ := List.mem_map.mp h
      exact List.mem_map.mpr ⟨i, mem_pick.mpr ⟨hl i hi, by unfold plus; rw [decide_eq_true hi, Bool.or_true]⟩, rfl⟩
  · intro h
    obtain ⟨i, hi, rfl⟩ := List.mem_map.mp h
    obtain ⟨h1, h2⟩ := mem_pick.mp hi
    unfold plus at h2
    rcases Bool.or_eq_true_iff.mp h2 with h2 | h2
    · exact .inl (List.mem_map.mpr ⟨i, mem_pick.mpr ⟨h1, h2⟩, rfl⟩)
    · exact .inr (List.mem_map.mpr ⟨i, of_decide_eq_true h2, rfl⟩)
/-- the plans from where D has grown -/
def plansI (par : α → α) (k : Nat) (st : List α) (n : Nat) (f : Nat → α) (m : Nat) (D : Nat → Bool) : List (List (List α)) := plans par k m (st ++ doneI n f D) (leftI n f D)
theorem Num.plansI (N : Num par st n f B) (m : Nat) {D : Nat → Bool} (h : leftI n f D ≠ []) : plansI par k st n f (m + 1) D = (Pw.lots k (readyI n B D)).flatMap fun lot => (Pw.plansI par k st n f m (plus D lot)).map fun r => lot.map f :: r := by
  unfold Pw.plansI
  rw [plans_succ par k m _ h, N.lots k D, List.flatMap_map]
  have key : ∀ lot ∈ Pw.lots k (readyI n B D), (plans par k m ((st ++ doneI n f D) ++ lot.map f) (wo (leftI n f D) (lot.map f))).map (fun r => lot.map f :: r) = (plans par k m (st ++ doneI n f (plus D lot)) (leftI n f (plus D lot))).map (fun r => lot.map f :: r) := fun lot hlot => by
    have hl := lot_lt k hlot
    rw [N.left D hl, plans_st par k m (N.done D hl)]
  have aux : ∀ l : List (List Nat), (∀ lot ∈ l, lot ∈ Pw.lots k (readyI n B D)) → l.flatMap (fun lot => (plans par k m ((st ++ doneI n f D) ++ lot.map f) (wo (leftI n f D) (lot.map f))).map (fun r => lot.map f :: r)) = l.flatMap (fun lot => (plans par k m (st ++ doneI n f (plus D lot)) (leftI n f (plus D lot))).map (fun r => lot.map f :: r)) := by
    intro l
    induction l with
    | nil => intro _; rfl
    | cons a l ih =>
      intro h
      rw [List.flatMap_cons, List.flatMap_cons, key a (h a List.mem_cons_self), ih fun b hb => h b (List.mem_cons_of_mem _ hb)]
  exact aux _ fun _ h => h
def ways (par : α → α) (k : Nat) (st : List α) (n : Nat) (f : Nat → α) (m : Nat) (D : Nat → Bool) : Nat := (plansI par k st n f m D).length
theorem Num.ways_succ (N : Num par st n f B) (m : Nat) {D : Nat → Bool} (h : leftI n f D ≠ []) : ways par k st n f (m + 1) D = ((Pw.lots k (readyI n B D)).map fun lot => ways par k st n f m (plus D lot)).sum := by
  unfold ways
  rw [N.plansI k m h, List.length_flatMap]
  congr 1
  refine List.map_congr_left fun lot _ => ?_
  rw [List.length_map]
theorem ways_nil (m : Nat) {D : Nat → Bool} (h : leftI n f D = []) : ways par k st n f m D = if m = 0 then 1 else 0 := by
  unfold ways plansI
  rw [h, plans_nil]
  split <;> rfl
theorem good_len : ∀ {st left : List α} (P : List (List α)), left.Nodup → Good par k st left P → left.length ≤ P.length * k
  | st, left, [], _, h => by
    have h : left = [] := h
    rw [h]; exact Nat.zero_le _
  | st, left, m :: P, nd, h => by
    obtain ⟨⟨_, h2, h3, h4⟩, h5⟩ := h
    have ih : (wo left m).length ≤ P.length * k := good_len P (nd.sublist List.filter_sublist) h5
    have e : left.length = (left.filter fun s => decide (s ∈ m)).length + (wo left m).length := by
      unfold wo
      rw [← List.countP_eq_length_filter, ← List.countP_eq_length_filter]
      rw [List.length_eq_countP_add_countP (fun s => decide (s ∈ m)) (l := left)]
      congr 2
      funext s
      simp
    have e2 : (left.filter fun s => decide (s ∈ m)).length ≤ m.length := by
      have nd2 : (left.filter fun s => decide (s ∈ m)).Nodup := nd.sublist List.filter_sublist
      have key : ∀ (l m : List α), l.Nodup → (∀ x ∈ l, x ∈ m) → l.length ≤ m.length := by
        intro l
        induction l with
        | nil => intro m _ _; exact Nat.zero_le _
        | cons a l ih =>
          intro m hn hs
          have ha := hs a List.mem_cons_self
          have h1 := ih (m.erase a) (List.nodup_cons.mp hn).2 fun x hx => (List.mem_erase_of_ne (fun z => (List.nodup_cons.mp hn).1 (by rw [← z]; exact hx))).mpr (hs x (List.mem_cons_of_mem _ hx))
          rw [List.length_erase_of_mem ha] at h1
          have := List.length_pos_of_mem ha
          rw [List.length_cons]; omega
      exact key _ _ nd2 fun x hx => of_decide_eq_true (List.mem_filter.mp hx).2
    rw [List.length_cons, Nat.succ_mul]
    omega
theorem Num.ways_many (N : Num par st n f B) (m : Nat) {D : Nat → Bool} (h : m * k < (leftI n f D).length) : ways par k st n f m D = 0 := by
  unfold ways Pw.plansI
  cases e : plans par k m (st ++ doneI n f D) (leftI n f D) with
  | nil => rfl
  | cons P r =>
    have hP : P ∈ plans par k m (st ++ doneI n f D) (leftI n f D) := by rw [e]; exact List.mem_cons_self
    obtain ⟨h1, h2⟩ := (mem_plans par k m (N.leftUp D) P).mp hP
    have := good_len k P (N.leftUp D).nodup h2
    rw [h1] at this
    omega
end
end Pw
end
section
set_option autoImplicit false
set_option linter.all false
/-! Plain mathematics 3: a plan of the bound's length exists (from the last season back, the furthest tops first), and none is shorter. -/
namespace Pw
section
variable {α : Type} [DecidableEq α]
theorem nodup_len : ∀ {l m : List α}, l.Nodup → (∀ x ∈ l, x ∈ m) → l.length ≤ m.length
  | [], m, _, _ => Nat.zero_le _
  | a :: l, m, hn, hs => by
    have ha := hs a List.mem_cons_self
    have h1 := nodup_len (m := m.erase a) (List.nodup_cons.mp hn).2 fun x hx => (List.mem_erase_of_ne (fun z => (List.nodup_cons.mp hn).1 (by rw [← z]; exact hx))).mpr (hs x (List.mem_cons_of_mem _ hx))
    rw [List.length_erase_of_mem ha] at h1
    have := List.length_pos_of_mem ha
    rw [List.length_cons]; omega
theorem count_split (p q : α → Bool) : ∀ l : List α, l.countP p = l.countP (fun x => p x && q x) + l.countP (fun x => p x && !q x)
  | [] => rfl
  | a :: l => by
    rw [List.countP_cons, List.countP_cons, List.countP_cons, count_split p q l]
    cases p a <;> cases q a <;> simp <;> omega
theorem count_mono {p q : α → Bool} {l : List α} (h : ∀ x ∈ l, p x = true → q x = true) : l.countP p ≤ l.countP q := List.countP_mono_left h
theorem count_zero {p : α → Bool} {l : List α} (h : ∀ x ∈ l, p x = true → False) : l.countP p = 0 := List.countP_eq_zero.mpr fun x hx hp => h x hx hp
theorem count_filter (p q : α → Bool) (l : List α) : (l.filter q).countP p = l.countP fun x => p x && q x := List.countP_filter
end
section
variable {α : Type} [LT α] [STO α] [DecidableEq α] [DecidableLT α] (par : α → α) (k : Nat)
/-- no plan is shorter -/
theorem good_bound : ∀ (P : List (List α)) {st left : List α} (d : α → Nat), left.Nodup → (∀ s ∈ left, par s ∈ st → d s ≤ 1) → (∀ s ∈ left, par s ∈ left → d s ≤ d (par s) + 1) →
    Good par k st left P → ∀ h, left.countP (fun s => decide (h < d s)) ≤ k * (P.length - h)
  | [], st, left, d, nd, h1, h2, g, h => by
    have e : left = [] := g
    rw [e]; exact Nat.zero_le _
  | m :: P, st, left, d, nd, h1, h2, g, h => by
    have gl := good_len k (m :: P) nd g
    obtain ⟨⟨_, g2, g3, g4⟩, g5⟩ := g
    cases h with
    | zero =>
      refine Nat.le_trans List.countP_le_length ?_
      rw [Nat.sub_zero, Nat.mul_comm]; exact gl
    | succ h =>
      have ih := good_bound P (left := wo left m) (fun s => d s - 1) (nd.sublist List.filter_sublist) (fun s hs hp => ?_) (fun s hs hp => ?_) g5 h
      · rw [List.length_cons, Nat.succ_sub_succ]
        refine Nat.le_trans ?_ ih
        unfold wo
        rw [count_filter]
        refine count_mono fun s hs hd => ?_
        have hd := of_decide_eq_true hd
        rw [Bool.and_eq_true_iff, decide_eq_true_iff, Bool.not_eq_true', decide_eq_false_iff_not]
        refine ⟨by omega, fun hm => ?_⟩
        have := h1 s hs (g4 s hm).2
        omega
      · obtain ⟨hs, hsm⟩ := (mem_wo).mp hs
        show d s - 1 ≤ 1
        rcases List.mem_append.mp hp with hp | hp
        · have := h1 s hs hp; omega
        · have a := h2 s hs (g4 _ hp).1
          have b := h1 _ (g4 _ hp).1 (g4 _ hp).2
          omega
      · obtain ⟨hs, hsm⟩ := (mem_wo).mp hs
        obtain ⟨hp, hpm⟩ := (mem_wo).mp hp
        show d s - 1 ≤ d (par s) - 1 + 1
        have := h2 s hs hp; omega
/-- one season more behind a plan -/
theorem good_snoc : ∀ (P : List (List α)) {st left S : List α}, Up left → S.Sublist left → S ≠ [] → S.length ≤ k → (∀ s ∈ S, par s ∈ st ∨ par s ∈ wo left S) → Good par k st (wo left S) P → Good par k st left (P ++ [S])
  | [], st, left, S, up, sub, h1, h2, h3, g => by
    have e : wo left S = [] := g
    have hall : ∀ x ∈ left, x ∈ S := fun x hx => by
      by_cases q : x ∈ S
      · exact q
      · have : x ∈ wo left S := mem_wo.mpr ⟨hx, q⟩
        rw [e] at this; cases this
    refine ⟨⟨h1, h2, up.sub sub, fun s hs => ⟨sub.subset hs, ?_⟩⟩, ?_⟩
    · rcases h3 s hs with q | q
      · exact q
      · rw [e] at q; cases q
    · show wo left S = []
      exact e
  | m :: P, st, left, S, up, sub, h1, h2, h3, g => by
    obtain ⟨⟨g1, g2, g3, g4⟩, g5⟩ := g
    refine ⟨⟨g1, g2, g3, fun s hs => ⟨(mem_wo.mp (g4 s hs).1).1, (g4 s hs).2⟩⟩, ?_⟩
    have comm : wo (wo left S) m = wo (wo left m) S := by
      unfold wo
      rw [List.filter_filter, List.filter_filter]
      congr 1
      funext s
      rw [Bool.and_comm]
    have hmS : ∀ s ∈ m, s ∉ S := fun s hs => (mem_wo.mp (g4 s hs).1).2
    refine good_snoc P (st := st ++ m) (left := wo left m) (wo_up up) (Up.sublist (up.sub sub) (wo_up up) fun s hs => mem_wo.mpr ⟨sub.subset hs, fun q => hmS s q hs⟩) h1 h2 (fun s hs => ?_) (by rw [← comm]; exact g5)
    rcases h3 s hs with q | q
    · exact .inl (List.mem_append_left _ q)
    · by_cases z : par s ∈ m
      · exact .inl (List.mem_append_right _ z)
      · right
        rw [← comm]
        exact mem_wo.mpr ⟨q, z⟩
/-- depths: from 1 on, each one more than beneath -/
structure Deep (st left : List α) (d : α → Nat) : Prop where
  pos : ∀ s ∈ left, 1 ≤ d s
  low : ∀ s ∈ left, d s = 1 → par s ∈ st
  up : ∀ s ∈ left, 1 < d s → par s ∈ left ∧ d (par s) + 1 = d s
def over (d : α → Nat) (left : List α) (h : Nat) : Nat := left.countP fun s => decide (h < d s)
variable {par k}
theorem step_back {st left : List α} {d : α → Nat} (D : Deep par st left d) (up : Up left) (hk : 1 ≤ k) {T : Nat} (hne : left ≠ []) (B : ∀ h, over d left h ≤ k * (T - h)) :
    ∃ S : List α, S.Sublist left ∧ S ≠ [] ∧ S.length ≤ k ∧ (∀ s ∈ S, ∀ c ∈ left, 1 < d c → par c ≠ s) ∧ ∀ h, over d (wo left S) h ≤ k * (T - 1 - h) := by
  have nd := up.nodup
  -- tops
  let leaf : α → Bool := fun s => left.all fun c => decide (1 < d c → par c ≠ s)
  have leaf_iff : ∀ s, leaf s = true ↔ ∀ c ∈ left, 1 < d c → par c ≠ s := fun s => by
    show (left.all fun c => decide (1 < d c → par c ≠ s)) = true ↔ _
    rw [List.all_eq_true]
    exact ⟨fun h c hc => of_decide_eq_true (h c hc), fun h c hc => decide_eq_true (h c hc)⟩
  have dT : ∀ s ∈ left, d s ≤ T := fun s hs => by
    have p := D.pos s hs
    have b := B (d s - 1)
    have : 1 ≤ over d left (d s - 1) := List.countP_pos_iff.mpr ⟨s, hs, decide_eq_true (by omega)⟩
    by_cases q : d s ≤ T
    · exact q
    · rw [show T - (d s - 1) = 0 by omega, Nat.mul_zero] at b
      omega
  let le : α → α → Bool := fun a b => decide (d b ≤ d a)
  let tops := left.filter leaf
  let row := tops.mergeSort le
  let S0 := row.take k
  have row_mem : ∀ s, s ∈ row ↔ s ∈ left ∧ leaf s = true := fun s => by
    show s ∈ tops.mergeSort le ↔ _
    rw [List.mem_mergeSort, List.mem_filter]
  have row_nd : row.Nodup := (List.mergeSort_perm tops le).nodup_iff.mpr (nd.sublist List.filter_sublist)
  have row_pw : row.Pairwise fun a b => le a b = true := List.pairwise_mergeSort (le := le) (fun a b c h1 h2 => by
    have h1 := of_decide_eq_true h1
    have h2 := of_decide_eq_true h2
    exact decide_eq_true (by omega)) (fun a b => by
    show (decide (d b ≤ d a) || decide (d a ≤ d b)) = true
    rw [Bool.or_eq_true_iff, decide_eq_true_iff, decide_eq_true_iff]
    omega) tops
  let S := left.filter fun s => decide (s ∈ S0)
  have S_mem : ∀ s, s ∈ S ↔ s ∈ S0 := fun s => by
    show s ∈ left.filter _ ↔ _
    rw [List.mem_filter, decide_eq_true_iff]
    exact ⟨fun h => h.2, fun h => ⟨((row_mem s).mp (List.mem_of_mem_take h)).1, h⟩⟩
  have perm : S.Perm S0 := (List.perm_ext_iff_of_nodup (nd.sublist List.filter_sublist) (row_nd.sublist (List.take_sublist _ _))).mpr S_mem
  have Slen : S.length ≤ k := by
    rw [perm.length_eq]
    exact Nat.le_trans (by rw [List.length_take]; exact Nat.min_le_left _ _) (Nat.le_refl _)
  have Sleaf : ∀ s ∈ S, leaf s = true := fun s hs => ((row_mem s).mp (List.mem_of_mem_take ((S_mem s).mp hs))).2
  -- the deepest is a top
  have hrow : row ≠ [] := by
    obtain ⟨x, hx⟩ := List.exists_mem_of_ne_nil _ hne
    have key : ∀ n, ∀ s ∈ left, T - d s ≤ n → ∃ t ∈ left, leaf t = true := by
      intro n
      induction n with
      | zero =>
        intro s hs hn
        refine ⟨s, hs, (leaf_iff s).mpr fun c hc h1 e => ?_⟩
        have u := (D.up c hc h1).2
        have := dT c hc
        have := dT s hs
        rw [e] at u
        omega
      | succ n ih =>
        intro s hs hn
        by_cases q : leaf s = true
        · exact ⟨s, hs, q⟩
        · have q' : ¬ ∀ c ∈ left, 1 < d c → par c ≠ s := fun z => q ((leaf_iff s).mpr z)
          obtain ⟨c, hc, h1, e⟩ : ∃ c, c ∈ left ∧ 1 < d c ∧ par c = s := by
            refine Classical.byContradiction fun z => q' fun c hc h1 e => z ⟨c, hc, h1, e⟩
          have u := (D.up c hc h1).2
          rw [e] at u
          exact ih c hc (by omega)
    obtain ⟨t, ht, hl⟩ := key _ x hx (Nat.le_refl _)
    intro z
    have := (row_mem t).mpr ⟨ht, hl⟩
    rw [z] at this; cases this
  have hS : S ≠ [] := by
    intro z
    have : S0 = [] := by
      have e := perm.length_eq
      rw [z] at e
      exact List.eq_nil_of_length_eq_zero e.symm
    cases e : row with
    | nil => exact hrow e
    | cons a r =>
      have : row.take k = [] := this
      rw [e] at this
      cases k with
      | zero => omega
      | succ k => cases this
  refine ⟨S, List.filter_sublist, hS, Slen, fun s hs => (leaf_iff s).mp (Sleaf s hs), fun h => ?_⟩
  have part : over d left h = over d (wo left S) h + over d S h := by
    unfold over
    rw [count_split (fun s => decide (h < d s)) (fun s => decide (s ∈ S)) left]
    unfold wo
    rw [count_filter, Nat.add_comm]
    congr 1
    rw [show S.countP (fun s => decide (h < d s)) = left.countP (fun s => decide (h < d s) && decide (s ∈ S0)) from count_filter _ _ left]
    refine List.countP_congr fun x hx => ?_
    rw [show decide (x ∈ S) = decide (x ∈ S0) from decide_eq_decide.mpr (S_mem x)]
  have Sk : over d S h ≤ k := Nat.le_trans List.countP_le_length Slen
  by_cases full : over d S h = k
  · have b := B h
    rw [part, full] at b
    rw [show T - 1 - h = (T - h) - 1 by omega, Nat.mul_sub_one]
    omega
  · -- all tops above h are taken
    have taken : ∀ t ∈ left, leaf t = true → h < d t → t ∈ S := fun t ht hl hd => by
      refine Classical.byContradiction fun q => full ?_
      have q0 : t ∉ row.take k := fun z => q ((S_mem t).mpr z)
      have hdrop : t ∈ row.drop k := by
        have := (row_mem t).mpr ⟨ht, hl⟩
        rw [← List.take_append_drop k row] at this
        rcases List.mem_append.mp this with z | z
        · exact absurd z q0
        · exact z
      have hlen : (row.take k).length = k := by
        rw [List.length_take]
        have : 0 < (row.drop k).length := List.length_pos_of_mem hdrop
        rw [List.length_drop] at this
        omega
      have pw := row_pw
      rw [← List.take_append_drop k row, List.pairwise_append] at pw
      have all : ∀ s ∈ row.take k, h < d s := fun s hs => by
        have := of_decide_eq_true (pw.2.2 s hs t hdrop)
        omega
      show S.countP _ = k
      rw [perm.countP_eq, ← hlen]
      exact List.countP_eq_length.mpr fun s hs => decide_eq_true (all s hs)
    let lf : Nat → Nat := fun h => left.countP fun s => decide (h < d s) && leaf s
    let NL : Nat → Nat := fun h => left.countP fun s => decide (h < d s) && !leaf s
    have lfk : lf h < k := by
      have : lf h ≤ over d S h := by
        show left.countP _ ≤ S.countP _
        rw [show S.countP (fun s => decide (h < d s)) = left.countP (fun s => decide (h < d s) && decide (s ∈ S0)) from count_filter _ _ left]
        refine count_mono fun x hx hp => ?_
        obtain ⟨h1, h2⟩ := Bool.and_eq_true_iff.mp hp
        exact Bool.and_eq_true_iff.mpr ⟨h1, decide_eq_true ((S_mem x).mp (taken x hx h2 (of_decide_eq_true h1)))⟩
      omega
    have lfmono : ∀ i j, i ≤ j → lf j ≤ lf i := fun i j hij => count_mono fun x _ hp => by
      obtain ⟨h1, h2⟩ := Bool.and_eq_true_iff.mp hp
      exact Bool.and_eq_true_iff.mpr ⟨decide_eq_true (by have := of_decide_eq_true h1; omega), h2⟩
    let nl : Nat → Nat := fun j => left.countP fun s => decide (d s = j) && !leaf s
    -- each that is no top has one upon it
    have child : ∀ s ∈ left, leaf s = false → ∃ c ∈ left, par c = s ∧ d c = d s + 1 := fun s hs hl => by
      have q' : ¬ ∀ c ∈ left, 1 < d c → par c ≠ s := fun z => by
        rw [(leaf_iff s).mpr z] at hl; cases hl
      obtain ⟨c, hc, h1, e⟩ : ∃ c, c ∈ left ∧ 1 < d c ∧ par c = s := by
        refine Classical.byContradiction fun z => q' fun c hc h1 e => z ⟨c, hc, h1, e⟩
      have u := (D.up c hc h1).2
      rw [e] at u
      exact ⟨c, hc, e, u.symm⟩
    have lvl : ∀ j, nl j ≤ left.countP fun s => decide (d s = j + 1) := fun j => by
      show left.countP _ ≤ _
      rw [List.countP_eq_length_filter, List.countP_eq_length_filter, ← List.length_map (f := par) (as := left.filter fun s => decide (d s = j + 1))]
      refine nodup_len (nd.sublist List.filter_sublist) fun s hs => ?_
      obtain ⟨hs, hp⟩ := List.mem_filter.mp hs
      obtain ⟨h1, h2⟩ := Bool.and_eq_true_iff.mp hp
      obtain ⟨c, hc, e, ed⟩ := child s hs (by simpa using h2)
      exact List.mem_map.mpr ⟨c, List.mem_filter.mpr ⟨hc, decide_eq_true (by have := of_decide_eq_true h1; omega)⟩, e⟩
    have lvl2 : ∀ j, (left.countP fun s => decide (d s = j + 1)) ≤ nl (j + 1) + (lf j - lf (j + 1)) := fun j => by
      have e1 : lf j = lf (j + 1) + left.countP (fun s => decide (d s = j + 1) && leaf s) := by
        show left.countP _ = left.countP _ + _
        rw [count_split (fun s => decide (j < d s) && leaf s) (fun s => decide (j + 1 < d s)) left]
        congr 1
        · refine List.countP_congr fun x _ => ?_
          simp only [Bool.and_eq_true, decide_eq_true_eq]
          constructor
          · rintro ⟨⟨_, a⟩, b⟩; exact ⟨b, a⟩
          · rintro ⟨b, a⟩; exact ⟨⟨by omega, a⟩, b⟩
        · refine List.countP_congr fun x _ => ?_
          simp only [Bool.and_eq_true, decide_eq_true_eq, Bool.not_eq_true', decide_eq_false_iff_not]
          constructor
          · rintro ⟨⟨c, a⟩, b⟩; exact ⟨by omega, a⟩
          · rintro ⟨b, a⟩; exact ⟨⟨by omega, a⟩, by omega⟩
      have e2 : left.countP (fun s => decide (d s = j + 1)) = left.countP (fun s => decide (d s = j + 1) && leaf s) + nl (j + 1) := count_split _ _ _
      omega
    have nll : ∀ n j, T - j ≤ n → nl j ≤ lf j := by
      intro n
      induction n with
      | zero =>
        intro j hj
        have : nl j = 0 := count_zero fun s hs hp => by
          obtain ⟨h1, h2⟩ := Bool.and_eq_true_iff.mp hp
          obtain ⟨c, hc, e, ed⟩ := child s hs (by simpa using h2)
          have := dT c hc
          have := of_decide_eq_true h1
          omega
        omega
      | succ n ih =>
        intro j hj
        have a := lvl j
        have b := lvl2 j
        have c := ih (j + 1) (by omega)
        have e := lfmono j (j + 1) (Nat.le_succ _)
        omega
    have NLz : ∀ g, T - 1 - g = 0 → NL g = 0 := fun g z => count_zero fun s hs hp => by
      obtain ⟨h1, h2⟩ := Bool.and_eq_true_iff.mp hp
      obtain ⟨c, hc, e, ed⟩ := child s hs (by simpa using h2)
      have := dT c hc
      have := of_decide_eq_true h1
      omega
    have NLb : ∀ n g, h ≤ g → T - 1 - g ≤ n → NL g ≤ k * (T - 1 - g) := by
      intro n
      induction n with
      | zero =>
        intro g hg hn
        rw [NLz g (by omega)]; exact Nat.zero_le _
      | succ n ih =>
        intro g hg hn
        by_cases z : T - 1 - g = 0
        · rw [NLz g z]; exact Nat.zero_le _
        · have i := ih (g + 1) (by omega) (by omega)
          have e1 : NL g = NL (g + 1) + nl (g + 1) := by
            show left.countP _ = left.countP _ + left.countP _
            rw [count_split (fun s => decide (g < d s) && !leaf s) (fun s => decide (g + 1 < d s)) left]
            congr 1
            · refine List.countP_congr fun x _ => ?_
              simp only [Bool.and_eq_true, decide_eq_true_eq]
              constructor
              · rintro ⟨⟨_, a⟩, b⟩; exact ⟨b, a⟩
              · rintro ⟨b, a⟩; exact ⟨⟨by omega, a⟩, b⟩
            · refine List.countP_congr fun x _ => ?_
              simp only [Bool.and_eq_true, decide_eq_true_eq, Bool.not_eq_true', decide_eq_false_iff_not]
              constructor
              · rintro ⟨⟨c, a⟩, b⟩; exact ⟨by omega, a⟩
              · rintro ⟨b, a⟩; exact ⟨⟨by omega, a⟩, by omega⟩
          have e2 := nll _ (g + 1) (Nat.le_refl _)
          have e3 := lfmono h (g + 1) (by omega)
          have e4 : T - 1 - g = (T - 1 - (g + 1)) + 1 := by omega
          rw [e4, Nat.mul_add, Nat.mul_one]
          omega
    refine Nat.le_trans ?_ (NLb _ h (Nat.le_refl _) (Nat.le_refl _))
    show (wo left S).countP _ ≤ left.countP _
    unfold wo
    rw [count_filter]
    refine count_mono fun x hx hp => ?_
    obtain ⟨h1, h2⟩ := Bool.and_eq_true_iff.mp hp
    refine Bool.and_eq_true_iff.mpr ⟨h1, ?_⟩
    cases q : leaf x with
    | false => rfl
    | true =>
      rw [decide_eq_true (taken x hx q (of_decide_eq_true h1))] at h2
      cases h2
theorem exists_good (hk : 1 ≤ k) : ∀ (n : Nat) {st left : List α} {d : α → Nat} (T : Nat), left.length ≤ n → Deep par st left d → Up left → (∀ h, over d left h ≤ k * (T - h)) → ∃ P, Good par k st left P ∧ P.length ≤ T
  | 0, st, left, d, T, hn, _, _, _ => ⟨[], List.eq_nil_of_length_eq_zero (Nat.le_zero.mp hn), Nat.zero_le _⟩
  | n + 1, st, left, d, T, hn, D, up, B => by
    by_cases e : left = []
    · exact ⟨[], e, Nat.zero_le _⟩
    · obtain ⟨S, h1, h2, h3, h4, h5⟩ := step_back D up hk e B
      obtain ⟨x, hx⟩ := List.exists_mem_of_ne_nil _ h2
      have hlt : (wo left S).length < left.length := by
        have : x ∈ left := h1.subset hx
        unfold wo
        rw [← List.countP_eq_length_filter]
        refine Nat.lt_of_le_of_ne List.countP_le_length fun z => ?_
        have := List.countP_eq_length.mp z x this
        rw [decide_eq_true hx] at this
        cases this
      have D' : Deep par st (wo left S) d := ⟨fun s hs => D.pos s (mem_wo.mp hs).1, fun s hs => D.low s (mem_wo.mp hs).1, fun s hs hd => by
        obtain ⟨a, b⟩ := mem_wo.mp hs
        obtain ⟨c, e⟩ := D.up s a hd
        exact ⟨mem_wo.mpr ⟨c, fun z => h4 _ z s a hd rfl⟩, e⟩⟩
      obtain ⟨P, g, hP⟩ := exists_good hk n (T - 1) (by omega) D' (wo_up up) h5
      refine ⟨P ++ [S], good_snoc par k P up h1 h2 h3 (fun s hs => ?_) g, ?_⟩
      · have a := h1.subset hs
        by_cases q : d s = 1
        · exact .inl (D.low s a q)
        · have p := D.pos s a
          obtain ⟨c, e⟩ := D.up s a (by omega)
          exact .inr (mem_wo.mpr ⟨c, fun z => h4 _ z s a (by omega) rfl⟩)
      · rw [List.length_append]
        have b := B 0
        have : 1 ≤ over d left 0 := List.countP_pos_iff.mpr ⟨x, h1.subset hx, decide_eq_true (by have := D.pos x (h1.subset hx); omega)⟩
        have : T ≠ 0 := fun z => by rw [z, Nat.zero_sub, Nat.mul_zero] at b; omega
        show P.length + 1 ≤ T
        omega
/-- there is a plan of just the least bound's length -/
theorem plans_some (hk : 1 ≤ k) {st left : List α} {d : α → Nat} {T : Nat} (D : Deep par st left d) (hst : ∀ s ∈ left, par s ∈ st → d s = 1) (up : Up left) (B : ∀ h, over d left h ≤ k * (T - h)) (least : ∀ T', (∀ h, over d left h ≤ k * (T' - h)) → T ≤ T') :
    plans par k T st left ≠ [] := by
  obtain ⟨P, g, hP⟩ := exists_good hk _ T (Nat.le_refl _) D up B
  have lb := good_bound par k P (st := st) (left := left) d up.nodup (fun s hs h => Nat.le_of_eq (hst s hs h)) (fun s hs h => by
    by_cases q : d s = 1
    · omega
    · have p := D.pos s hs
      have := (D.up s hs (by omega)).2
      omega) g
  have e : P.length = T := Nat.le_antisymm hP (least _ lb)
  intro z
  have := (mem_plans par k T up P).mpr ⟨e, g⟩
  rw [z] at this; cases this
end
end Pw
end
section
set_option linter.all false
set_option maxRecDepth 100000
set_option maxHeartbeats 2000000
/-! Data 1: plain data as Python data, what of the heap is not owned, what stays. -/
namespace Pw
open PySem PySem.Spec PyProof.Rows L2
abbrev Fg := PySem.W.Frag
instance : STO Int := ⟨Int.lt_irrefl, fun h k => Int.lt_trans h k, Int.lt_trichotomy⟩
/-! ### the heap but for what is owned -/
def Hd (S : List Addr) (H : Hp) : Hp := fun b => if b ∈ S then none else H b
theorem Hd_none {H : Hp} : Hd [] H = H := by
  funext b
  unfold Hd
  rw [if_neg (List.not_mem_nil)]
theorem Hd_at {S : List Addr} {H : Hp} {b : Addr} (h : b ∉ S) : Hd S H b = H b := if_neg h
theorem Hd_some {S : List Addr} {H : Hp} {b : Addr} {o : HO} (h : Hd S H b = some o) : b ∉ S ∧ H b = some o := by
  unfold Hd at h
  by_cases q : b ∈ S
  · rw [if_pos q] at h; cases h
  · rw [if_neg q] at h; exact ⟨q, h⟩
/-- all but what is owned is as it was -/
def Fz (S : List Addr) (H H' : Hp) : Prop := ∀ b o, b ∉ S → H b = some o → H' b = some o
theorem Fz.refl {S : List Addr} {H : Hp} : Fz S H H := fun _ _ _ h => h
theorem Fz.trans {S : List Addr} {H H1 H2 : Hp} (a : Fz S H H1) (b : Fz S H1 H2) : Fz S H H2 := fun c o n h => b c o n (a c o n h)
theorem Fz.of {S : List Addr} {H H' : Hp} (a : Same H H') : Fz S H H' := fun b o _ h => a b o h
theorem Fz.more {S T : List Addr} {H H' : Hp} (a : Fz S H H') (h : ∀ b ∈ S, b ∈ T) : Fz T H H' := fun b o n e => a b o (fun z => n (h b z)) e
theorem Fz.hd {S : List Addr} {H H' : Hp} (a : Fz S H H') : Same (Hd S H) (Hd S H') := fun b o h => by
  obtain ⟨n, e⟩ := Hd_some h
  rw [Hd_at n]; exact a b o n e
theorem Fz.same {H H' : Hp} (a : Fz [] H H') : Same H H' := fun b o h => a b o List.not_mem_nil h
theorem same_hd {S : List Addr} {H H' : Hp} (a : Same H H') : Same (Hd S H) (Hd S H') := (Fz.of a).hd
theorem hd_out {S T : List Addr} {H : Hp} (h : ∀ b ∈ S, b ∈ T) : Same (Hd T H) (Hd S H) := fun b o e => by
  obtain ⟨n, e⟩ := Hd_some e
  rw [Hd_at fun z => n (h b z)]; exact e
theorem hd_to {S : List Addr} {H : Hp} : Same (Hd S H) H := fun b o e => (Hd_some e).2
theorem hd_in {S : List Addr} {H : Hp} {l : Addr} (hl : H l = none) : Same (Hd S H) (Hd (l :: S) H) := fun b o e => by
  obtain ⟨n, e⟩ := Hd_some e
  rw [Hd_at]
  · exact e
  · intro z
    rcases List.mem_cons.mp z with z | z
    · rw [z, hl] at e; cases e
    · exact n z
theorem same_up {H : Hp} {p : Addr} {o : HO} (h : H p = none) : Same H (upd H p o) := fun b x e => by
  rw [upd_ne (ne_of_none e h)]; exact e
theorem hd_upd {S : List Addr} {H : Hp} {l : Addr} {o : HO} (h : l ∈ S) : Hd S (upd H l o) = Hd S H := by
  funext b
  unfold Hd
  by_cases q : b ∈ S
  · rw [if_pos q, if_pos q]
  · rw [if_neg q, if_neg q, upd_ne fun z => q (by rw [z]; exact h)]
theorem fz_upd {S : List Addr} {H : Hp} {l : Addr} {o : HO} (h : l ∈ S) : Fz S H (upd H l o) := fun b x n e => by
  rw [upd_ne fun z => n (by rw [z]; exact h)]; exact e
/-- what is owned is tracked: a new object is none of it -/
def Own (S : List Addr) (H : Hp) : Prop := ∀ b ∈ S, H b ≠ none
theorem Own.nil {H : Hp} : Own [] H := fun _ h => nomatch h
theorem Own.new {S : List Addr} {H : Hp} {p : Addr} (f : Own S H) (h : H p = none) : p ∉ S := fun z => f p z h
theorem Own.cons {S : List Addr} {H : Hp} {l : Addr} {o : HO} (f : Own S H) (h : H l = some o) : Own (l :: S) H := fun b hb => by
  rcases List.mem_cons.mp hb with z | z
  · rw [z, h]; intro q; cases q
  · exact f b z
theorem Own.tail {S : List Addr} {H : Hp} {l : Addr} (f : Own (l :: S) H) : Own S H := fun b hb => f b (List.mem_cons_of_mem _ hb)
theorem Own.same {S : List Addr} {H H' : Hp} (f : Own S H) (a : Same H H') : Own S H' := fun b hb z => by
  cases e : H b with
  | none => exact f b hb e
  | some o => rw [a b o e] at z; cases z
/-- nothing tracked is lost -/
def Kp (H H' : Hp) : Prop := ∀ b, H b ≠ none → H' b ≠ none
theorem Own.kp {S : List Addr} {H H' : Hp} (f : Own S H) (a : Kp H H') : Own S H' := fun b hb => a b (f b hb)
theorem Kp.of {H H' : Hp} (a : Same H H') : Kp H H' := fun b hb z => by
  cases e : H b with
  | none => exact hb e
  | some o => rw [a b o e] at z; cases z
theorem Kp.upd {H : Hp} {l : Addr} {o : HO} : Kp H (upd H l o) := fun b hb z => by
  by_cases e : b = l
  · rw [e, upd_same] at z; cases z
  · rw [upd_ne e] at z; exact hb z
theorem Kp.trans {H H1 H2 : Hp} (a : Kp H H1) (b : Kp H1 H2) : Kp H H2 := fun c hc => b c (a c hc)
theorem Kp.refl {H : Hp} : Kp H H := fun _ h => h
/-! ### data stay -/
theorem sql_same {K : Fg} {H H' : Hp} {a : Addr} {xs : List V} (e : Same H H') (h : SqL K H a xs) : SqL K H' a xs := e.seq h
theorem sqt_same {K : Fg} {H H' : Hp} {a : Addr} {xs : List V} (e : Same H H') (h : SqT K H a xs) : SqT K H' a xs := by
  rcases h with (h | ⟨o, h⟩) | h
  · exact .inl (.inl (e _ _ h))
  · exact .inl (.inr ⟨o, e _ _ h⟩)
  · exact .inr h
mutual
/-- v stands for d in G, every list and tuple tracked -/
inductive Tp (G : Hp) : V → PyData → Prop
  | non : Tp G .non .none
  | bl (b : Bool) : Tp G (.bl b) (.bool b)
  | int (i : Int) : Tp G (.int i) (.int i)
  | str (x : Str) : Tp G (.str x) (.str x)
  | lst {a : Addr} {xs : List V} {ds : List PyData} : G a = some (.lst xs) → TpAll G xs ds → Tp G (.ref a) (.list ds)
  | tup {a : Addr} {xs : List V} {ds : List PyData} : G a = some (.tup xs) → TpAll G xs ds → Tp G (.ref a) (.tuple ds)
inductive TpAll (G : Hp) : List V → List PyData → Prop
  | nil : TpAll G [] []
  | cons {v : V} {vs : List V} {d : PyData} {ds : List PyData} : Tp G v d → TpAll G vs ds → TpAll G (v :: vs) (d :: ds)
end
mutual
theorem dp_same {H H' : Hp} (e : Same H H') : ∀ (d : PyData) (v : V), Tp H v d → Tp H' v d
  | .none, _, h => by cases h; exact .non
  | .bool _, _, h => by cases h; exact .bl _
  | .int _, _, h => by cases h; exact .int _
  | .str _, _, h => by cases h; exact .str _
  | .list ds, _, h => by
    cases h with
    | lst h1 h2 => exact .lst (e _ _ h1) (dpAll_same e ds _ h2)
  | .tuple ds, _, h => by
    cases h with
    | tup h1 h2 => exact .tup (e _ _ h1) (dpAll_same e ds _ h2)
  | .dict _, _, h => by cases h
theorem dpAll_same {H H' : Hp} (e : Same H H') : ∀ (ds : List PyData) (vs : List V), TpAll H vs ds → TpAll H' vs ds
  | [], _, h => by cases h; exact .nil
  | d :: ds, _, h => by
    cases h with
    | cons h1 h2 => exact .cons (dp_same e d _ h1) (dpAll_same e ds _ h2)
end
mutual
theorem tp_dp {K : Fg} {H : Hp} : ∀ (d : PyData) (v : V), Tp H v d → Dp K H v d
  | .none, _, h => by cases h; exact .non
  | .bool _, _, h => by cases h; exact .bl _
  | .int _, _, h => by cases h; exact .int _
  | .str _, _, h => by cases h; exact .str _
  | .list ds, _, h => by
    cases h with
    | lst h1 h2 => exact .lst (.of h1) (tpAll_dp ds _ h2)
  | .tuple ds, _, h => by
    cases h with
    | tup h1 h2 => exact .tup (.of h1) (tpAll_dp ds _ h2)
  | .dict _, _, h => by cases h
theorem tpAll_dp {K : Fg} {H : Hp} : ∀ (ds : List PyData) (vs : List V), TpAll H vs ds → DpAll K H vs ds
  | [], _, h => by cases h; exact .nil
  | d :: ds, _, h => by
    cases h with
    | cons h1 h2 => exact .cons (tp_dp d _ h1) (tpAll_dp ds _ h2)
end
section
variable {G : Hp}
theorem dpAll_len : ∀ {vs : List V} {ds : List PyData}, TpAll G vs ds → vs.length = ds.length
  | _, _, .nil => rfl
  | _, _, .cons _ t => by rw [List.length_cons, List.length_cons, dpAll_len t]
theorem dpAll_app : ∀ {vs ws : List V} {ds es : List PyData}, TpAll G vs ds → TpAll G ws es → TpAll G (vs ++ ws) (ds ++ es)
  | _, _, _, _, .nil, h => h
  | _, _, _, _, .cons h t, k => .cons h (dpAll_app t k)
theorem dpAll_one {v : V} {d : PyData} (h : Tp G v d) : TpAll G [v] [d] := .cons h .nil
theorem dpAll_at : ∀ {vs : List V} {ds : List PyData} {i : Nat} {v : V}, TpAll G vs ds → vs[i]? = some v → ∃ d, ds[i]? = some d ∧ Tp G v d
  | _, _, _, _, .nil, h => by simp at h
  | _, _, 0, _, .cons h _, e => by
    simp at e; subst e
    exact ⟨_, rfl, h⟩
  | _, _, i + 1, v, .cons _ t, e => by
    obtain ⟨d, h1, h2⟩ := dpAll_at (i := i) (v := v) t (by simpa using e)
    exact ⟨d, by simpa using h1, h2⟩
theorem dpAll_to : ∀ {vs : List V} {ds : List PyData} {i : Nat} {d : PyData}, TpAll G vs ds → ds[i]? = some d → ∃ v, vs[i]? = some v ∧ Tp G v d
  | _, _, _, _, .nil, h => by simp at h
  | _, _, 0, _, .cons h _, e => by
    simp at e; subst e
    exact ⟨_, rfl, h⟩
  | _, _, i + 1, d, .cons _ t, e => by
    obtain ⟨v, h1, h2⟩ := dpAll_to (i := i) (d := d) t (by simpa using e)
    exact ⟨v, by simpa using h1, h2⟩
theorem dpAll_take : ∀ {vs : List V} {ds : List PyData} (n : Nat), TpAll G vs ds → TpAll G (vs.take n) (ds.take n)
  | _, _, 0, _ => .nil
  | _, _, _ + 1, .nil => .nil
  | _, _, n + 1, .cons h t => .cons h (dpAll_take n t)
theorem dpAll_drop : ∀ {vs : List V} {ds : List PyData} (n : Nat), TpAll G vs ds → TpAll G (vs.drop n) (ds.drop n)
  | _, _, 0, h => h
  | _, _, _ + 1, .nil => .nil
  | _, _, n + 1, .cons _ t => dpAll_drop n t
theorem dpAll_set {v : V} {d : PyData} (h : Tp G v d) : ∀ {vs : List V} {ds : List PyData} (n : Nat), TpAll G vs ds → TpAll G (vs.set n v) (ds.set n d)
  | _, _, _, .nil => .nil
  | _, _, 0, .cons _ t => .cons h t
  | _, _, n + 1, .cons k t => .cons k (dpAll_set h n t)
theorem dpAll_ins {v : V} {d : PyData} (h : Tp G v d) {vs : List V} {ds : List PyData} (n : Nat) (k : TpAll G vs ds) : TpAll G (vs.take n ++ v :: vs.drop n) (ds.take n ++ d :: ds.drop n) :=
  dpAll_app (dpAll_take n k) (.cons h (dpAll_drop n k))
theorem dpAll_erase : ∀ {vs : List V} {ds : List PyData} (n : Nat), TpAll G vs ds → TpAll G (vs.eraseIdx n) (ds.eraseIdx n)
  | _, _, _, .nil => by simp; exact .nil
  | _, _, 0, .cons _ t => t
  | _, _, n + 1, .cons h t => .cons h (dpAll_erase n t)
theorem dpAll_rev {vs : List V} {ds : List PyData} (h : TpAll G vs ds) : TpAll G vs.reverse ds.reverse := by
  induction h using TpAll.rec (motive_1 := fun _ _ _ => True) with
  | nil => exact .nil
  | cons h _ _ ih => rw [List.reverse_cons, List.reverse_cons]; exact dpAll_app ih (dpAll_one h)
  | _ => trivial
theorem dp_list {v : V} {ds : List PyData} (h : Tp G v (.list ds)) : ∃ a xs, v = .ref a ∧ G a = some (.lst xs) ∧ TpAll G xs ds := by
  cases h with
  | lst h1 h2 => exact ⟨_, _, rfl, h1, h2⟩
theorem dp_tuple {v : V} {ds : List PyData} (h : Tp G v (.tuple ds)) : ∃ a xs, v = .ref a ∧ G a = some (.tup xs) ∧ TpAll G xs ds := by
  cases h with
  | tup h1 h2 => exact ⟨_, _, rfl, h1, h2⟩
end
/-! ### encodings -/
/-- how plain data are told as Python's -/
structure Enc (α : Type) [LT α] [STO α] [DecidableEq α] [DecidableLT α] where
  e : α → PyData
  ok : α → Prop
  dep : Nat
  lay : ∀ a, ok a → (e a).canLay0 = true
  dle : ∀ a, (e a).depth ≤ dep
  eqv : ∀ a b, PyData.eqv (e a) (e b) = decide (a = b)
  ali : ∀ a b, PySem.W.alike (e a) (e b) = true
  lt : ∀ a b, PySem.W.dataLt (e a) (e b) = decide (a < b)
def eInt : Enc Int where
  e := .int
  ok := fun _ => True
  dep := 0
  lay := fun a _ => by simp [PyData.canLay0]
  dle := fun a => by simp [PyData.depth]
  eqv := fun a b => by
    show (a == b) = decide (a = b)
    by_cases h : a = b <;> simp [h]
  ali := fun a b => by simp [PySem.W.alike]
  lt := fun a b => PySem.W.dataLt_int a b
def eNat : Enc Nat where
  e := fun n => .int n
  ok := fun _ => True
  dep := 0
  lay := fun a _ => by simp [PyData.canLay0]
  dle := fun a => by simp [PyData.depth]
  eqv := fun a b => by
    show ((a : Int) == (b : Int)) = decide (a = b)
    by_cases h : a = b
    · simp [h]
    · rw [decide_eq_false h]; exact beq_eq_false_iff_ne.mpr fun z => h (Int.ofNat.inj z)
  ali := fun a b => by simp [PySem.W.alike]
  lt := fun a b => by
    rw [PySem.W.dataLt_int]
    exact decide_eq_decide.mpr Int.ofNat_lt
/-- a word: its signs -/
abbrev W := List Nat
abbrev tx (w : W) : Str := ⟨w.toArray⟩
def okW (w : W) : Prop := w.length ≤ 1000 ∧ ∀ c ∈ w, c < 1114112
theorem tx_cps (w : W) : (tx w).cps.toList = w := by simp
theorem tx_inj {a b : W} (h : tx a = tx b) : a = b := by
  have := congrArg (fun z : Str => z.cps.toList) h
  simpa using this
theorem tx_of (z : Str) : tx z.cps.toList = z := by cases z; simp
def eStr : Enc W where
  e := fun w => .str (tx w)
  ok := okW
  dep := 0
  lay := fun a h => by
    show (PyData.str (tx a)).canLay0 = true
    simp only [PyData.canLay0]
    show (Array.all _ _) = true
    rw [Array.all_eq_true']
    intro c hc
    exact decide_eq_true (h.2 c (by simpa using hc))
  dle := fun a => by simp [PyData.depth]
  eqv := fun a b => by
    show (tx a == tx b) = decide (a = b)
    by_cases h : a = b
    · simp [h]
    · rw [decide_eq_false h]; exact beq_eq_false_iff_ne.mpr fun z => h (tx_inj z)
  ali := fun a b => by simp [PySem.W.alike]
  lt := fun a b => by
    rw [PySem.W.dataLt_str, tx_cps, tx_cps]
section
variable {α β : Type} [LT α] [STO α] [DecidableEq α] [DecidableLT α] [LT β] [STO β] [DecidableEq β] [DecidableLT β]
def ePair (A : Enc α) (B : Enc β) : Enc (α × β) where
  e := fun p => .tuple [A.e p.1, B.e p.2]
  ok := fun p => A.ok p.1 ∧ B.ok p.2
  dep := max A.dep B.dep + 1
  lay := fun p h => by simp [PyData.canLay0, PyData.canLayAll0, A.lay _ h.1, B.lay _ h.2]
  dle := fun p => by
    have := A.dle p.1
    have := B.dle p.2
    simp only [PyData.depth, PyData.depthAll]
    omega
  eqv := fun p q => by
    simp only [PyData.eqv, PyData.eqvAll, A.eqv, B.eqv, Bool.and_true]
    rw [← Bool.decide_and]
    exact decide_eq_decide.mpr ⟨fun h => Prod.ext h.1 h.2, fun h => by rw [h]; exact ⟨rfl, rfl⟩⟩
  ali := fun p q => by simp [PySem.W.alike, PySem.W.alikeAll, A.ali, B.ali]
  lt := fun p q => by
    rw [PySem.W.dataLt_pair (A.ali _ _) (B.ali _ _), A.eqv, B.eqv, A.lt, B.lt]
    by_cases h1 : p.1 = q.1
    · rw [if_pos (decide_eq_true h1)]
      by_cases h2 : p.2 = q.2
      · rw [if_pos (decide_eq_true h2)]
        symm
        rw [decide_eq_false_iff_not, pair_lt]
        rintro (h | ⟨_, h⟩)
        · exact lt_ne h h1
        · exact lt_ne h h2
      · rw [if_neg (by simpa using h2)]
        refine decide_eq_decide.mpr ?_
        rw [pair_lt]
        exact ⟨fun h => .inr ⟨h1, h⟩, fun h => h.elim (fun h => absurd h1 (lt_ne h)) fun h => h.2⟩
    · rw [if_neg (by simpa using h1)]
      refine decide_eq_decide.mpr ?_
      rw [pair_lt]
      exact ⟨fun h => .inl h, fun h => h.elim (fun h => h) fun h => absurd h.1 h1⟩
theorem all_lay (A : Enc α) : ∀ l : List α, (∀ x ∈ l, A.ok x) → PyData.canLayAll0 (l.map A.e) = true
  | [], _ => by simp [PyData.canLayAll0]
  | x :: l, h => by
    simp only [List.map_cons, PyData.canLayAll0, A.lay x (h x List.mem_cons_self), all_lay A l fun y hy => h y (List.mem_cons_of_mem _ hy), Bool.and_self]
theorem all_dep (A : Enc α) : ∀ l : List α, PyData.depthAll (l.map A.e) ≤ A.dep
  | [] => by simp [PyData.depthAll]
  | x :: l => by
    have := A.dle x
    have := all_dep A l
    simp only [List.map_cons, PyData.depthAll]
    omega
theorem all_eqv (A : Enc α) : ∀ l m : List α, PyData.eqvAll (l.map A.e) (m.map A.e) = decide (l = m)
  | [], [] => by simp [PyData.eqvAll]
  | [], y :: m => by simp [PyData.eqvAll]
  | x :: l, [] => by simp [PyData.eqvAll]
  | x :: l, y :: m => by
    simp only [List.map_cons, PyData.eqvAll, A.eqv, all_eqv A l m]
    rw [← Bool.decide_and]
    exact decide_eq_decide.mpr (by rw [List.cons.injEq])
theorem all_ali (A : Enc α) : ∀ l m : List α, PySem.W.alikeAll (l.map A.e) (m.map A.e) = true
  | [], _ => by simp [PySem.W.alikeAll]
  | x :: l, [] => by simp [PySem.W.alikeAll]
  | x :: l, y :: m => by
    simp only [List.map_cons, PySem.W.alikeAll, A.ali, all_ali A l m, Bool.and_self]
theorem all_lt (A : Enc α) : ∀ l m : List α, PyProof.Rows.lexLt PyProof.Rows.itemOrd (PySem.W.keyToksAll (l.map A.e)) (PySem.W.keyToksAll (m.map A.e)) = decide (l < m)
  | [], [] => by
    rw [decide_eq_false (not_lt_nil _)]
    exact PyProof.Rows.lex_irrefl _
  | [], y :: m => by
    rw [decide_eq_true (nil_lt y m), List.map_cons, PySem.W.toks_all_cons]
    show PyProof.Rows.lexLt PyProof.Rows.itemOrd (PySem.W.keyToksAll []) _ = true
    simp only [PySem.W.keyToksAll]
    rw [PyProof.Rows.lex_diff (O := PyProof.Rows.itemOrd) (by simp)]
    rfl
  | x :: l, [] => by
    rw [decide_eq_false (not_lt_nil _), List.map_cons, PySem.W.toks_all_cons]
    show PyProof.Rows.lexLt PyProof.Rows.itemOrd _ (PySem.W.keyToksAll []) = false
    simp only [PySem.W.keyToksAll]
    rw [PyProof.Rows.lex_diff (O := PyProof.Rows.itemOrd) (by simp)]
    rfl
  | x :: l, y :: m => by
    rw [List.map_cons, List.map_cons, PySem.W.dataLt_cons (A.ali x y), A.eqv, A.lt, all_lt A l m]
    by_cases h : x = y
    · rw [if_pos (decide_eq_true h)]
      refine decide_eq_decide.mpr ?_
      rw [cons_lt]
      exact ⟨fun k => .inr ⟨h, k⟩, fun k => k.elim (fun k => absurd h (lt_ne k)) fun k => k.2⟩
    · rw [if_neg (by simpa using h)]
      refine decide_eq_decide.mpr ?_
      rw [cons_lt]
      exact ⟨fun k => .inl k, fun k => k.elim (fun k => k) fun k => absurd k.1 h⟩
def eList (A : Enc α) : Enc (List α) where
  e := fun l => .list (l.map A.e)
  ok := fun l => ∀ x ∈ l, A.ok x
  dep := A.dep + 1
  lay := fun l h => by simp only [PyData.canLay0]; exact all_lay A l h
  dle := fun l => by
    have := all_dep A l
    simp only [PyData.depth]
    omega
  eqv := fun l m => by simp only [PyData.eqv]; exact all_eqv A l m
  ali := fun l m => by simp only [PySem.W.alike]; exact all_ali A l m
  lt := fun l m => by rw [PySem.W.dataLt_list]; exact all_lt A l m
end
abbrev Spot := W × W
abbrev eSpot : Enc Spot := ePair eStr eStr
abbrev eSpots : Enc (List Spot) := eList eSpot
section
variable {α : Type} [LT α] [STO α] [DecidableEq α] [DecidableLT α]
theorem Enc.shaped (A : Enc α) {a : α} (h : A.ok a) (hd : A.dep ≤ 64) : SeqAt.shaped (A.e a) = true := by
  show ((A.e a).canLay0 && decide ((A.e a).depth ≤ 64)) = true
  rw [Bool.and_eq_true]
  exact ⟨A.lay a h, decide_eq_true (Nat.le_trans (A.dle a) hd)⟩
theorem Enc.inj (A : Enc α) {a b : α} (h : A.e a = A.e b) : a = b := by
  have e1 := A.eqv a b
  have e2 := A.eqv b b
  rw [h, e2] at e1
  simpa using e1.symm
/-- v stands for a -/
def At (G : Hp) (A : Enc α) (v : V) (a : α) : Prop := Tp G v (A.e a) ∧ A.ok a
/-- vs stand for l -/
def Ats (G : Hp) (A : Enc α) (vs : List V) (l : List α) : Prop := TpAll G vs (l.map A.e) ∧ ∀ x ∈ l, A.ok x
variable {G G' : Hp} {A : Enc α} {v : V} {a : α} {vs ws : List V} {l m : List α}
theorem At.same (h : At G A v a) (e : Same G G') : At G' A v a := ⟨dp_same e _ _ h.1, h.2⟩
theorem Ats.same (h : Ats G A vs l) (e : Same G G') : Ats G' A vs l := ⟨dpAll_same e _ _ h.1, h.2⟩
theorem Ats.nil : Ats G A [] [] := ⟨.nil, fun _ h => nomatch h⟩
theorem Ats.app (h : Ats G A vs l) (k : Ats G A ws m) : Ats G A (vs ++ ws) (l ++ m) := ⟨by rw [List.map_append]; exact dpAll_app h.1 k.1, fun x hx => (List.mem_append.mp hx).elim (h.2 x) (k.2 x)⟩
theorem Ats.one (h : At G A v a) : Ats G A [v] [a] := ⟨dpAll_one h.1, fun x hx => by rw [List.mem_singleton.mp hx]; exact h.2⟩
theorem Ats.cons (h : At G A v a) (k : Ats G A vs l) : Ats G A (v :: vs) (a :: l) := ⟨.cons h.1 k.1, fun x hx => (List.mem_cons.mp hx).elim (fun e => by rw [e]; exact h.2) (k.2 x)⟩
theorem Ats.len (h : Ats G A vs l) : vs.length = l.length := by rw [dpAll_len h.1, List.length_map]
theorem Ats.at {i : Nat} (h : Ats G A vs l) (e : vs[i]? = some v) : ∃ x, l[i]? = some x ∧ At G A v x := by
  obtain ⟨d, h1, h2⟩ := dpAll_at h.1 e
  rw [List.getElem?_map] at h1
  cases q : l[i]? with
  | none => rw [q] at h1; cases h1
  | some x =>
    rw [q] at h1
    have h1 : A.e x = d := Option.some.inj h1
    exact ⟨x, rfl, by rw [h1]; exact h2, h.2 x (List.mem_of_getElem? q)⟩
theorem Ats.to {i : Nat} (h : Ats G A vs l) (e : l[i]? = some a) : ∃ v, vs[i]? = some v ∧ At G A v a := by
  obtain ⟨v, h1, h2⟩ := dpAll_to (i := i) (d := A.e a) h.1 (by rw [List.getElem?_map, e]; rfl)
  exact ⟨v, h1, h2, h.2 a (List.mem_of_getElem? e)⟩
theorem Ats.take (n : Nat) (h : Ats G A vs l) : Ats G A (vs.take n) (l.take n) := ⟨by rw [List.map_take]; exact dpAll_take n h.1, fun x hx => h.2 x (List.mem_of_mem_take hx)⟩
theorem Ats.drop (n : Nat) (h : Ats G A vs l) : Ats G A (vs.drop n) (l.drop n) := ⟨by rw [List.map_drop]; exact dpAll_drop n h.1, fun x hx => h.2 x (List.mem_of_mem_drop hx)⟩
theorem Ats.rev (h : Ats G A vs l) : Ats G A vs.reverse l.reverse := ⟨by rw [List.map_reverse]; exact dpAll_rev h.1, fun x hx => h.2 x (List.mem_reverse.mp hx)⟩
theorem Ats.erase (n : Nat) (h : Ats G A vs l) : Ats G A (vs.eraseIdx n) (l.eraseIdx n) := ⟨by
  have e : (l.eraseIdx n).map A.e = (l.map A.e).eraseIdx n := by simp [List.eraseIdx_eq_take_drop_succ]
  rw [e]; exact dpAll_erase n h.1, fun x hx => h.2 x (List.mem_of_mem_eraseIdx hx)⟩
theorem Ats.set (n : Nat) (h : Ats G A vs l) (k : At G A v a) : Ats G A (vs.set n v) (l.set n a) := ⟨by rw [List.map_set]; exact dpAll_set k.1 n h.1, fun x hx => by
  rcases List.mem_or_eq_of_mem_set hx with z | z
  · exact h.2 x z
  · rw [z]; exact k.2⟩
/-- a list's data: where it stands, its items -/
theorem At.list (h : At G (eList A) v l) : ∃ p xs, v = .ref p ∧ G p = some (.lst xs) ∧ Ats G A xs l := by
  obtain ⟨p, xs, e, h1, h2⟩ := dp_list h.1
  exact ⟨p, xs, e, h1, h2, h.2⟩
theorem At.of_list {p : Addr} (h : G p = some (.lst vs)) (k : Ats G A vs l) : At G (eList A) (.ref p) l := ⟨.lst h k.1, k.2⟩
end
section
variable {G : Hp} {v w : V}
theorem At.str {s : W} (h : At G eStr v s) : v = .str (tx s) := by
  have h := h.1
  cases h; rfl
theorem At.of_str {s : W} (h : okW s) : At G eStr (.str (tx s)) s := ⟨.str _, h⟩
theorem At.int {i : Int} (h : At G eInt v i) : v = .int i := by
  have h := h.1
  cases h; rfl
theorem At.of_int {i : Int} : At G eInt (.int i) i := ⟨.int _, trivial⟩
theorem At.nat {i : Nat} (h : At G eNat v i) : v = .int i := by
  have h := h.1
  cases h; rfl
theorem At.of_nat {i : Nat} : At G eNat (.int i) i := ⟨.int _, trivial⟩
variable {α β : Type} [LT α] [STO α] [DecidableEq α] [DecidableLT α] [LT β] [STO β] [DecidableEq β] [DecidableLT β] {A : Enc α} {B : Enc β}
theorem At.pair {p : α × β} (h : At G (ePair A B) v p) : ∃ t x y, v = .ref t ∧ G t = some (.tup [x, y]) ∧ At G A x p.1 ∧ At G B y p.2 := by
  obtain ⟨t, xs, e, h1, h2⟩ := dp_tuple h.1
  cases h2 with
  | cons a b =>
    cases b with
    | cons b c =>
      cases c
      exact ⟨t, _, _, e, h1, ⟨a, h.2.1⟩, ⟨b, h.2.2⟩⟩
theorem At.of_pair {t : Addr} {x y : V} {p : α × β} (h : G t = some (.tup [x, y])) (ha : At G A x p.1) (hb : At G B y p.2) : At G (ePair A B) (.ref t) p :=
  ⟨.tup h (.cons ha.1 (.cons hb.1 .nil)), ha.2, hb.2⟩
theorem At.spot {p : Spot} (h : At G eSpot v p) : ∃ t, v = .ref t ∧ G t = some (.tup [.str (tx p.1), .str (tx p.2)]) ∧ okW p.1 ∧ okW p.2 := by
  obtain ⟨t, x, y, e, h1, h2, h3⟩ := h.pair
  rw [h2.str, h3.str] at h1
  exact ⟨t, e, h1, h2.2, h3.2⟩
theorem At.dp {α : Type} [LT α] [STO α] [DecidableEq α] [DecidableLT α] {K : Fg} {G H : Hp} {A : Enc α} {v : V} {a : α} (h : At G A v a) (e : Same G H) : Dp K H v (A.e a) := tp_dp _ _ (dp_same e _ _ h.1)
end
end Pw
end
section
set_option linter.all false
set_option maxRecDepth 100000
set_option maxHeartbeats 2000000
/-! The text: what the top leaves, by names. -/
namespace Pw
open PySem PySem.Spec PyProof.Rows L2
def top (i : Nat) : Stmt := PySem.Challenge.pw_pleachwall_k26_whole_plans_by_their_numb.main.body.getD i (.Pass ⟨0, 0, 0, 0⟩)
structure Tx (K : PySem.W.Frag) (mg : Str → Option Value) where
  g_is_name : mg "is_name" = some (.ref (He.ga K "is_name"))
  g_is_word : mg "is_word" = some (.ref (He.ga K "is_word"))
  g_beneath : mg "beneath" = some (.ref (He.ga K "beneath"))
  g_closed : mg "closed" = some (.ref (He.ga K "closed"))
  g_need_spots : mg "need_spots" = some (.ref (He.ga K "need_spots"))
  g_trees_of : mg "trees_of" = some (.ref (He.ga K "trees_of"))
  g_lacking_of : mg "lacking_of" = some (.ref (He.ga K "lacking_of"))
  g_in_way_of : mg "in_way_of" = some (.ref (He.ga K "in_way_of"))
  g_over_standing : mg "over_standing" = some (.ref (He.ga K "over_standing"))
  g_row_of : mg "row_of" = some (.ref (He.ga K "row_of"))
  g_need_sap : mg "need_sap" = some (.ref (He.ga K "need_sap"))
  g_seasons_for : mg "seasons_for" = some (.ref (He.ga K "seasons_for"))
  g_bound_at : mg "bound_at" = some (.ref (He.ga K "bound_at"))
  g_bounds : mg "bounds" = some (.ref (He.ga K "bounds"))
  m_Plan_len : Meth K (He.ga K "Plan") "__len__" (He.ma K (He.ga K "Plan") "__len__")
  m_Plan_seasons : Meth K (He.ga K "Plan") "seasons" (He.ma K (He.ga K "Plan") "seasons")
  g_need_free : mg "need_free" = some (.ref (He.ga K "need_free"))
  g_season_good : mg "season_good" = some (.ref (He.ga K "season_good"))
  g_fault_of : mg "fault_of" = some (.ref (He.ga K "fault_of"))
  m_Choices_place_of : Meth K (He.ga K "Choices") "place_of" (He.ma K (He.ga K "Choices") "place_of")
  m_Choices_ready : Meth K (He.ga K "Choices") "ready" (He.ma K (He.ga K "Choices") "ready")
  m_Choices_lots : Meth K (He.ga K "Choices") "lots" (He.ma K (He.ga K "Choices") "lots")
  m_Choices_behind : Meth K (He.ga K "Choices") "behind" (He.ma K (He.ga K "Choices") "behind")
  m_Choices_ways : Meth K (He.ga K "Choices") "ways" (He.ma K (He.ga K "Choices") "ways")
  g_choices_for : mg "choices_for" = some (.ref (He.ga K "choices_for"))
  g_count_in : mg "count_in" = some (.ref (He.ga K "count_in"))
  g_numbered : mg "numbered" = some (.ref (He.ga K "numbered"))
  g_rank_of : mg "rank_of" = some (.ref (He.ga K "rank_of"))
  g__law_hat : mg "_law_hat" = some (.ref (He.ga K "_law_hat"))
  g__law_take : mg "_law_take" = some (.ref (He.ga K "_law_take"))
  g__law_same : mg "_law_same" = some (.ref (He.ga K "_law_same"))
  g__law_odd : mg "_law_odd" = some (.ref (He.ga K "_law_odd"))
  g__law_mixed : mg "_law_mixed" = some (.ref (He.ga K "_law_mixed"))
  g__law_names : mg "_law_names" = some (.ref (He.ga K "_law_names"))
  g__law_ends : mg "_law_ends" = some (.ref (He.ga K "_law_ends"))
  g__law_words : mg "_law_words" = some (.ref (He.ga K "_law_words"))
  g__law_grove : mg "_law_grove" = some (.ref (He.ga K "_law_grove"))
  g__law_more : mg "_law_more" = some (.ref (He.ga K "_law_more"))
  g__law_lacking : mg "_law_lacking" = some (.ref (He.ga K "_law_lacking"))
  g__law_over : mg "_law_over" = some (.ref (He.ga K "_law_over"))
  g__law_row : mg "_law_row" = some (.ref (He.ga K "_law_row"))
  g__law_bound : mg "_law_bound" = some (.ref (He.ga K "_law_bound"))
  g__law_fewest : mg "_law_fewest" = some (.ref (He.ga K "_law_fewest"))
  g__law_task : mg "_law_task" = some (.ref (He.ga K "_law_task"))
  g__law_free_task : mg "_law_free_task" = some (.ref (He.ga K "_law_free_task"))
  g__law_lots : mg "_law_lots" = some (.ref (He.ga K "_law_lots"))
  g__law_ready : mg "_law_ready" = some (.ref (He.ga K "_law_ready"))
  g__law_all_plans : mg "_law_all_plans" = some (.ref (He.ga K "_law_all_plans"))
  g__law_all_quickest : mg "_law_all_quickest" = some (.ref (He.ga K "_law_all_quickest"))
  g__law_bent_plan : mg "_law_bent_plan" = some (.ref (He.ga K "_law_bent_plan"))
  g__law_told : mg "_law_told" = some (.ref (He.ga K "_law_told"))
  g_law : mg "law" = some (.ref (He.ga K "law"))
  g_Plan : mg "Plan" = some (.ref (He.ga K "Plan"))
  c_Plan : Cls K (He.ga K "Plan")
  k_Plan : Mk K (He.ga K "Plan") (He.ma K (He.ga K "Plan") "__init__")
  g_Choices : mg "Choices" = some (.ref (He.ga K "Choices"))
  c_Choices : Cls K (He.ga K "Choices")
  k_Choices : Mk K (He.ga K "Choices") (He.ma K (He.ga K "Choices") "__init__")
  n_Choices_missing : NoAttr K (He.ga K "Choices") "missing"
  n_Choices_most : NoAttr K (He.ga K "Choices") "most"
  n_Choices_below : NoAttr K (He.ga K "Choices") "below"
  n_Choices_known : NoAttr K (He.ga K "Choices") "known"
  n_Plan_steps : NoAttr K (He.ga K "Plan") "steps"
  f_len : mg "len" = none
  f_all : mg "all" = none
  f_dict : mg "dict" = none
  f_sorted : mg "sorted" = none
  f_set : mg "set" = none
  f_enumerate : mg "enumerate" = none
  f_max : mg "max" = none
  f_range : mg "range" = none
  f_list : mg "list" = none
  f_sum : mg "sum" = none
  f_tuple : mg "tuple" = none
  f_int : mg "int" = none
  f_isinstance : mg "isinstance" = none
  f_zip : mg "zip" = none
  f_KeyError : mg "KeyError" = none
  f_ValueError : mg "ValueError" = none
  f_str : mg "str" = none
  f_bool : mg "bool" = none
  g_BadNumber : mg "BadNumber" = some (.ref (He.ga K "BadNumber"))
  kp_BadNumber : PySem.W.keepIn K (.ref (He.ga K "BadNumber")) = true
  g_WallError : mg "WallError" = some (.ref (He.ga K "WallError"))
  kp_WallError : PySem.W.keepIn K (.ref (He.ga K "WallError")) = true
  e_BadNumber : PySem.W.exmOne K (.ref (He.ga K "BadNumber")) (.ref (He.ga K "BadNumber")) = some true
  tk_LONGEST_NAME : Tok
  g_LONGEST_NAME : mg "LONGEST_NAME" = some (.int 8 tk_LONGEST_NAME)
  tk_TALLEST : Tok
  g_TALLEST : mg "TALLEST" = some (.int 16 tk_TALLEST)
  tk_MOST_SAP : Tok
  g_MOST_SAP : mg "MOST_SAP" = some (.int 300 tk_MOST_SAP)
  tk_MOST_LACKING : Tok
  g_MOST_LACKING : mg "MOST_LACKING" = some (.int 10 tk_MOST_LACKING)
  tk_LETTERS : Tok
  g_LETTERS : mg "LETTERS" = some (.str "abcdefghijklmnopqrstuvwxyz" tk_LETTERS)
  tk_WAYS : Tok
  g_WAYS : mg "WAYS" = some (.str "lur" tk_WAYS)
  fd_WallError_init : FuncData
  F_WallError_init : FunD K "__init__" "WallError.__init__" (defArgs (inClass (top 1) 0)) (defBody (inClass (top 1) 0)) (defScope (inClass (top 1) 0)) [] [] (He.ma K (He.ga K "WallError") "__init__") fd_WallError_init
  fd_BadNumber_init : FuncData
  F_BadNumber_init : FunD K "__init__" "BadNumber.__init__" (defArgs (inClass (top 6) 0)) (defBody (inClass (top 6) 0)) (defScope (inClass (top 6) 0)) [.str "refused"] [] (He.ma K (He.ga K "BadNumber") "__init__") fd_BadNumber_init
  fd_is_name : FuncData
  F_is_name : FunD K "is_name" "is_name" (defArgs (top 13)) (defBody (top 13)) (defScope (top 13)) [] [] (He.ga K "is_name") fd_is_name
  fd_is_word : FuncData
  F_is_word : FunD K "is_word" "is_word" (defArgs (top 14)) (defBody (top 14)) (defScope (top 14)) [] [] (He.ga K "is_word") fd_is_word
  fd_beneath : FuncData
  F_beneath : FunD K "beneath" "beneath" (defArgs (top 15)) (defBody (top 15)) (defScope (top 15)) [] [] (He.ga K "beneath") fd_beneath
  fd_closed : FuncData
  F_closed : FunD K "closed" "closed" (defArgs (top 18)) (defBody (top 18)) (defScope (top 18)) [] [] (He.ga K "closed") fd_closed
  fd_need_spots : FuncData
  F_need_spots : FunD K "need_spots" "need_spots" (defArgs (top 19)) (defBody (top 19)) (defScope (top 19)) [] [] (He.ga K "need_spots") fd_need_spots
  fd_trees_of : FuncData
  F_trees_of : FunD K "trees_of" "trees_of" (defArgs (top 20)) (defBody (top 20)) (defScope (top 20)) [] [] (He.ga K "trees_of") fd_trees_of
  fd_lacking_of : FuncData
  F_lacking_of : FunD K "lacking_of" "lacking_of" (defArgs (top 21)) (defBody (top 21)) (defScope (top 21)) [] [] (He.ga K "lacking_of") fd_lacking_of
  fd_in_way_of : FuncData
  F_in_way_of : FunD K "in_way_of" "in_way_of" (defArgs (top 22)) (defBody (top 22)) (defScope (top 22)) [] [] (He.ga K "in_way_of") fd_in_way_of
  fd_over_standing : FuncData
  F_over_standing : FunD K "over_standing" "over_standing" (defArgs (top 23)) (defBody (top 23)) (defScope (top 23)) [] [] (He.ga K "over_standing") fd_over_standing
  fd_row_of : FuncData
  F_row_of : FunD K "row_of" "row_of" (defArgs (top 24)) (defBody (top 24)) (defScope (top 24)) [] [] (He.ga K "row_of") fd_row_of
  fd_need_sap : FuncData
  F_need_sap : FunD K "need_sap" "need_sap" (defArgs (top 27)) (defBody (top 27)) (defScope (top 27)) [] [] (He.ga K "need_sap") fd_need_sap
  fd_seasons_for : FuncData
  F_seasons_for : FunD K "seasons_for" "seasons_for" (defArgs (top 28)) (defBody (top 28)) (defScope (top 28)) [] [] (He.ga K "seasons_for") fd_seasons_for
  fd_bound_at : FuncData
  F_bound_at : FunD K "bound_at" "bound_at" (defArgs (top 29)) (defBody (top 29)) (defScope (top 29)) [] [] (He.ga K "bound_at") fd_bound_at
  fd_bounds : FuncData
  F_bounds : FunD K "bounds" "bounds" (defArgs (top 30)) (defBody (top 30)) (defScope (top 30)) [] [] (He.ga K "bounds") fd_bounds
  fd_Plan_init : FuncData
  F_Plan_init : FunD K "__init__" "Plan.__init__" (defArgs (inClass (top 31) 0)) (defBody (inClass (top 31) 0)) (defScope (inClass (top 31) 0)) [.non] [] (He.ma K (He.ga K "Plan") "__init__") fd_Plan_init
  fd_Plan_len : FuncData
  F_Plan_len : FunD K "__len__" "Plan.__len__" (defArgs (inClass (top 31) 1)) (defBody (inClass (top 31) 1)) (defScope (inClass (top 31) 1)) [] [] (He.ma K (He.ga K "Plan") "__len__") fd_Plan_len
  fd_Plan_seasons : FuncData
  F_Plan_seasons : FunD K "seasons" "Plan.seasons" (defArgs (inClass (top 31) 5)) (defBody (inClass (top 31) 5)) (defScope (inClass (top 31) 5)) [] [] (He.ma K (He.ga K "Plan") "seasons") fd_Plan_seasons
  fd_need_free : FuncData
  F_need_free : FunD K "need_free" "need_free" (defArgs (top 33)) (defBody (top 33)) (defScope (top 33)) [] [] (He.ga K "need_free") fd_need_free
  fd_season_good : FuncData
  F_season_good : FunD K "season_good" "season_good" (defArgs (top 35)) (defBody (top 35)) (defScope (top 35)) [] [] (He.ga K "season_good") fd_season_good
  fd_fault_of : FuncData
  F_fault_of : FunD K "fault_of" "fault_of" (defArgs (top 36)) (defBody (top 36)) (defScope (top 36)) [] [] (He.ga K "fault_of") fd_fault_of
  fd_Choices_init : FuncData
  F_Choices_init : FunD K "__init__" "Choices.__init__" (defArgs (inClass (top 39) 0)) (defBody (inClass (top 39) 0)) (defScope (inClass (top 39) 0)) [] [] (He.ma K (He.ga K "Choices") "__init__") fd_Choices_init
  fd_Choices_place_of : FuncData
  F_Choices_place_of : FunD K "place_of" "Choices.place_of" (defArgs (inClass (top 39) 1)) (defBody (inClass (top 39) 1)) (defScope (inClass (top 39) 1)) [] [] (He.ma K (He.ga K "Choices") "place_of") fd_Choices_place_of
  fd_Choices_ready : FuncData
  F_Choices_ready : FunD K "ready" "Choices.ready" (defArgs (inClass (top 39) 2)) (defBody (inClass (top 39) 2)) (defScope (inClass (top 39) 2)) [] [] (He.ma K (He.ga K "Choices") "ready") fd_Choices_ready
  fd_Choices_lots : FuncData
  F_Choices_lots : FunD K "lots" "Choices.lots" (defArgs (inClass (top 39) 3)) (defBody (inClass (top 39) 3)) (defScope (inClass (top 39) 3)) [] [] (He.ma K (He.ga K "Choices") "lots") fd_Choices_lots
  fd_Choices_behind : FuncData
  F_Choices_behind : FunD K "behind" "Choices.behind" (defArgs (inClass (top 39) 4)) (defBody (inClass (top 39) 4)) (defScope (inClass (top 39) 4)) [] [] (He.ma K (He.ga K "Choices") "behind") fd_Choices_behind
  fd_Choices_ways : FuncData
  F_Choices_ways : FunD K "ways" "Choices.ways" (defArgs (inClass (top 39) 5)) (defBody (inClass (top 39) 5)) (defScope (inClass (top 39) 5)) [] [] (He.ma K (He.ga K "Choices") "ways") fd_Choices_ways
  fd_choices_for : FuncData
  F_choices_for : FunD K "choices_for" "choices_for" (defArgs (top 40)) (defBody (top 40)) (defScope (top 40)) [] [] (He.ga K "choices_for") fd_choices_for
  fd_count_in : FuncData
  F_count_in : FunD K "count_in" "count_in" (defArgs (top 41)) (defBody (top 41)) (defScope (top 41)) [] [] (He.ga K "count_in") fd_count_in
  fd_numbered : FuncData
  F_numbered : FunD K "numbered" "numbered" (defArgs (top 42)) (defBody (top 42)) (defScope (top 42)) [.int 2] [] (He.ga K "numbered") fd_numbered
  fd_rank_of : FuncData
  F_rank_of : FunD K "rank_of" "rank_of" (defArgs (top 43)) (defBody (top 43)) (defScope (top 43)) [.int 2] [] (He.ga K "rank_of") fd_rank_of
  fd__law_hat : FuncData
  F__law_hat : FunD K "_law_hat" "_law_hat" (defArgs (top 45)) (defBody (top 45)) (defScope (top 45)) [] [] (He.ga K "_law_hat") fd__law_hat
  fd__law_take : FuncData
  F__law_take : FunD K "_law_take" "_law_take" (defArgs (top 46)) (defBody (top 46)) (defScope (top 46)) [] [] (He.ga K "_law_take") fd__law_take
  fd__law_same : FuncData
  F__law_same : FunD K "_law_same" "_law_same" (defArgs (top 47)) (defBody (top 47)) (defScope (top 47)) [] [] (He.ga K "_law_same") fd__law_same
  fd__law_odd : FuncData
  F__law_odd : FunD K "_law_odd" "_law_odd" (defArgs (top 48)) (defBody (top 48)) (defScope (top 48)) [] [] (He.ga K "_law_odd") fd__law_odd
  fd__law_mixed : FuncData
  F__law_mixed : FunD K "_law_mixed" "_law_mixed" (defArgs (top 49)) (defBody (top 49)) (defScope (top 49)) [] [] (He.ga K "_law_mixed") fd__law_mixed
  fd__law_names : FuncData
  F__law_names : FunD K "_law_names" "_law_names" (defArgs (top 50)) (defBody (top 50)) (defScope (top 50)) [] [] (He.ga K "_law_names") fd__law_names
  fd__law_ends : FuncData
  F__law_ends : FunD K "_law_ends" "_law_ends" (defArgs (top 51)) (defBody (top 51)) (defScope (top 51)) [] [] (He.ga K "_law_ends") fd__law_ends
  fd__law_words : FuncData
  F__law_words : FunD K "_law_words" "_law_words" (defArgs (top 52)) (defBody (top 52)) (defScope (top 52)) [] [] (He.ga K "_law_words") fd__law_words
  fd__law_grove : FuncData
  F__law_grove : FunD K "_law_grove" "_law_grove" (defArgs (top 53)) (defBody (top 53)) (defScope (top 53)) [] [] (He.ga K "_law_grove") fd__law_grove
  fd__law_more : FuncData
  F__law_more : FunD K "_law_more" "_law_more" (defArgs (top 54)) (defBody (top 54)) (defScope (top 54)) [] [] (He.ga K "_law_more") fd__law_more
  fd__law_lacking : FuncData
  F__law_lacking : FunD K "_law_lacking" "_law_lacking" (defArgs (top 55)) (defBody (top 55)) (defScope (top 55)) [] [] (He.ga K "_law_lacking") fd__law_lacking
  fd__law_over : FuncData
  F__law_over : FunD K "_law_over" "_law_over" (defArgs (top 56)) (defBody (top 56)) (defScope (top 56)) [] [] (He.ga K "_law_over") fd__law_over
  fd__law_row : FuncData
  F__law_row : FunD K "_law_row" "_law_row" (defArgs (top 57)) (defBody (top 57)) (defScope (top 57)) [] [] (He.ga K "_law_row") fd__law_row
  fd__law_bound : FuncData
  F__law_bound : FunD K "_law_bound" "_law_bound" (defArgs (top 58)) (defBody (top 58)) (defScope (top 58)) [] [] (He.ga K "_law_bound") fd__law_bound
  fd__law_fewest : FuncData
  F__law_fewest : FunD K "_law_fewest" "_law_fewest" (defArgs (top 59)) (defBody (top 59)) (defScope (top 59)) [] [] (He.ga K "_law_fewest") fd__law_fewest
  fd__law_task : FuncData
  F__law_task : FunD K "_law_task" "_law_task" (defArgs (top 60)) (defBody (top 60)) (defScope (top 60)) [] [] (He.ga K "_law_task") fd__law_task
  fd__law_free_task : FuncData
  F__law_free_task : FunD K "_law_free_task" "_law_free_task" (defArgs (top 61)) (defBody (top 61)) (defScope (top 61)) [] [] (He.ga K "_law_free_task") fd__law_free_task
  fd__law_lots : FuncData
  F__law_lots : FunD K "_law_lots" "_law_lots" (defArgs (top 62)) (defBody (top 62)) (defScope (top 62)) [] [] (He.ga K "_law_lots") fd__law_lots
  fd__law_ready : FuncData
  F__law_ready : FunD K "_law_ready" "_law_ready" (defArgs (top 63)) (defBody (top 63)) (defScope (top 63)) [] [] (He.ga K "_law_ready") fd__law_ready
  fd__law_all_plans : FuncData
  F__law_all_plans : FunD K "_law_all_plans" "_law_all_plans" (defArgs (top 64)) (defBody (top 64)) (defScope (top 64)) [] [] (He.ga K "_law_all_plans") fd__law_all_plans
  fd__law_all_quickest : FuncData
  F__law_all_quickest : FunD K "_law_all_quickest" "_law_all_quickest" (defArgs (top 65)) (defBody (top 65)) (defScope (top 65)) [] [] (He.ga K "_law_all_quickest") fd__law_all_quickest
  fd__law_bent_plan : FuncData
  F__law_bent_plan : FunD K "_law_bent_plan" "_law_bent_plan" (defArgs (top 66)) (defBody (top 66)) (defScope (top 66)) [] [] (He.ga K "_law_bent_plan") fd__law_bent_plan
  fd__law_told : FuncData
  F__law_told : FunD K "_law_told" "_law_told" (defArgs (top 67)) (defBody (top 67)) (defScope (top 67)) [] [] (He.ga K "_law_told") fd__law_told
  fd_law : FuncData
  F_law : FunD K "law" "law" (defArgs (top 68)) (defBody (top 68)) (defScope (top 68)) [] [] (He.ga K "law") fd_law
section
variable {K : PySem.W.Frag} {mg : Str → Option Value}
theorem b_WallError_init (T : Tx K mg) : Binds K T.fd_WallError_init (["self", "text", "called"] : List Str) [] := T.F_WallError_init.bindsN fun _ _ _ _ _ _ us hl => match us, hl with | [_, _, _], _ => rfl
theorem b_is_name (T : Tx K mg) : Binds K T.fd_is_name (["text"] : List Str) [] := T.F_is_name.bindsN fun _ _ _ _ _ _ us hl => match us, hl with | [_], _ => rfl
theorem b_is_word (T : Tx K mg) : Binds K T.fd_is_word (["text"] : List Str) [] := T.F_is_word.bindsN fun _ _ _ _ _ _ us hl => match us, hl with | [_], _ => rfl
theorem b_beneath (T : Tx K mg) : Binds K T.fd_beneath (["word"] : List Str) [] := T.F_beneath.bindsN fun _ _ _ _ _ _ us hl => match us, hl with | [_], _ => rfl
theorem b_closed (T : Tx K mg) : Binds K T.fd_closed (["spots"] : List Str) [] := T.F_closed.bindsN fun _ _ _ _ _ _ us hl => match us, hl with | [_], _ => rfl
theorem b_need_spots (T : Tx K mg) : Binds K T.fd_need_spots (["standing", "wished"] : List Str) [] := T.F_need_spots.bindsN fun _ _ _ _ _ _ us hl => match us, hl with | [_, _], _ => rfl
theorem b_trees_of (T : Tx K mg) : Binds K T.fd_trees_of (["spots"] : List Str) [] := T.F_trees_of.bindsN fun _ _ _ _ _ _ us hl => match us, hl with | [_], _ => rfl
theorem b_lacking_of (T : Tx K mg) : Binds K T.fd_lacking_of (["standing", "wished"] : List Str) [] := T.F_lacking_of.bindsN fun _ _ _ _ _ _ us hl => match us, hl with | [_, _], _ => rfl
theorem b_in_way_of (T : Tx K mg) : Binds K T.fd_in_way_of (["standing", "wished"] : List Str) [] := T.F_in_way_of.bindsN fun _ _ _ _ _ _ us hl => match us, hl with | [_, _], _ => rfl
theorem b_over_standing (T : Tx K mg) : Binds K T.fd_over_standing (["standing", "missing"] : List Str) [] := T.F_over_standing.bindsN fun _ _ _ _ _ _ us hl => match us, hl with | [_, _], _ => rfl
theorem b_row_of (T : Tx K mg) : Binds K T.fd_row_of (["depths"] : List Str) [] := T.F_row_of.bindsN fun _ _ _ _ _ _ us hl => match us, hl with | [_], _ => rfl
theorem b_need_sap (T : Tx K mg) : Binds K T.fd_need_sap (["sap"] : List Str) [] := T.F_need_sap.bindsN fun _ _ _ _ _ _ us hl => match us, hl with | [_], _ => rfl
theorem b_seasons_for (T : Tx K mg) : Binds K T.fd_seasons_for (["many", "sap"] : List Str) [] := T.F_seasons_for.bindsN fun _ _ _ _ _ _ us hl => match us, hl with | [_, _], _ => rfl
theorem b_bound_at (T : Tx K mg) : Binds K T.fd_bound_at (["row", "sap", "height"] : List Str) [] := T.F_bound_at.bindsN fun _ _ _ _ _ _ us hl => match us, hl with | [_, _, _], _ => rfl
theorem b_bounds (T : Tx K mg) : Binds K T.fd_bounds (["row", "sap"] : List Str) [] := T.F_bounds.bindsN fun _ _ _ _ _ _ us hl => match us, hl with | [_, _], _ => rfl
theorem b_Plan_len (T : Tx K mg) : Binds K T.fd_Plan_len (["self"] : List Str) [] := T.F_Plan_len.bindsN fun _ _ _ _ _ _ us hl => match us, hl with | [_], _ => rfl
theorem b_Plan_seasons (T : Tx K mg) : Binds K T.fd_Plan_seasons (["self"] : List Str) [] := T.F_Plan_seasons.bindsN fun _ _ _ _ _ _ us hl => match us, hl with | [_], _ => rfl
theorem b_need_free (T : Tx K mg) : Binds K T.fd_need_free (["standing", "wished"] : List Str) [] := T.F_need_free.bindsN fun _ _ _ _ _ _ us hl => match us, hl with | [_, _], _ => rfl
theorem b_season_good (T : Tx K mg) : Binds K T.fd_season_good (["season", "there", "missing", "sap"] : List Str) [] := T.F_season_good.bindsN fun _ _ _ _ _ _ us hl => match us, hl with | [_, _, _, _], _ => rfl
theorem b_fault_of (T : Tx K mg) : Binds K T.fd_fault_of (["standing", "wished", "plan", "sap"] : List Str) [] := T.F_fault_of.bindsN fun _ _ _ _ _ _ us hl => match us, hl with | [_, _, _, _], _ => rfl
theorem b_Choices_init (T : Tx K mg) : Binds K T.fd_Choices_init (["self", "missing", "sap"] : List Str) [] := T.F_Choices_init.bindsN fun _ _ _ _ _ _ us hl => match us, hl with | [_, _, _], _ => rfl
theorem b_Choices_place_of (T : Tx K mg) : Binds K T.fd_Choices_place_of (["self", "spot"] : List Str) [] := T.F_Choices_place_of.bindsN fun _ _ _ _ _ _ us hl => match us, hl with | [_, _], _ => rfl
theorem b_Choices_ready (T : Tx K mg) : Binds K T.fd_Choices_ready (["self", "done"] : List Str) [] := T.F_Choices_ready.bindsN fun _ _ _ _ _ _ us hl => match us, hl with | [_, _], _ => rfl
theorem b_Choices_lots (T : Tx K mg) : Binds K T.fd_Choices_lots (["self", "done"] : List Str) [] := T.F_Choices_lots.bindsN fun _ _ _ _ _ _ us hl => match us, hl with | [_, _], _ => rfl
theorem b_Choices_behind (T : Tx K mg) : Binds K T.fd_Choices_behind (["self", "done", "lot"] : List Str) [] := T.F_Choices_behind.bindsN fun _ _ _ _ _ _ us hl => match us, hl with | [_, _, _], _ => rfl
theorem b_Choices_ways (T : Tx K mg) : Binds K T.fd_Choices_ways (["self", "done", "seasons"] : List Str) [] := T.F_Choices_ways.bindsN fun _ _ _ _ _ _ us hl => match us, hl with | [_, _, _], _ => rfl
theorem b_choices_for (T : Tx K mg) : Binds K T.fd_choices_for (["standing", "wished", "sap"] : List Str) [] := T.F_choices_for.bindsN fun _ _ _ _ _ _ us hl => match us, hl with | [_, _, _], _ => rfl
theorem b_count_in (T : Tx K mg) : Binds K T.fd_count_in (["choices", "seasons"] : List Str) [] := T.F_count_in.bindsN fun _ _ _ _ _ _ us hl => match us, hl with | [_, _], _ => rfl
theorem b__law_hat (T : Tx K mg) : Binds K T.fd__law_hat (["_law_script"] : List Str) [] := T.F__law_hat.bindsN fun _ _ _ _ _ _ us hl => match us, hl with | [_], _ => rfl
theorem b__law_take (T : Tx K mg) : Binds K T.fd__law_take (["_law_hat_here", "_law_many"] : List Str) [] := T.F__law_take.bindsN fun _ _ _ _ _ _ us hl => match us, hl with | [_, _], _ => rfl
theorem b__law_same (T : Tx K mg) : Binds K T.fd__law_same (["_law_found", "_law_due"] : List Str) [] := T.F__law_same.bindsN fun _ _ _ _ _ _ us hl => match us, hl with | [_, _], _ => rfl
theorem b__law_odd (T : Tx K mg) : Binds K T.fd__law_odd (["_law_hat_here"] : List Str) [] := T.F__law_odd.bindsN fun _ _ _ _ _ _ us hl => match us, hl with | [_], _ => rfl
theorem b__law_mixed (T : Tx K mg) : Binds K T.fd__law_mixed (["_law_hat_here", "_law_row_here"] : List Str) [] := T.F__law_mixed.bindsN fun _ _ _ _ _ _ us hl => match us, hl with | [_, _], _ => rfl
theorem b__law_names (T : Tx K mg) : Binds K T.fd__law_names (["_law_hat_here", "_law_many"] : List Str) [] := T.F__law_names.bindsN fun _ _ _ _ _ _ us hl => match us, hl with | [_, _], _ => rfl
theorem b__law_ends (T : Tx K mg) : Binds K T.fd__law_ends (["_law_stood"] : List Str) [] := T.F__law_ends.bindsN fun _ _ _ _ _ _ us hl => match us, hl with | [_], _ => rfl
theorem b__law_words (T : Tx K mg) : Binds K T.fd__law_words (["_law_hat_here", "_law_many"] : List Str) [] := T.F__law_words.bindsN fun _ _ _ _ _ _ us hl => match us, hl with | [_, _], _ => rfl
theorem b__law_grove (T : Tx K mg) : Binds K T.fd__law_grove (["_law_hat_here", "_law_names_here", "_law_most"] : List Str) [] := T.F__law_grove.bindsN fun _ _ _ _ _ _ us hl => match us, hl with | [_, _, _], _ => rfl
theorem b__law_more (T : Tx K mg) : Binds K T.fd__law_more (["_law_hat_here", "_law_standing", "_law_names_here", "_law_many"] : List Str) [] := T.F__law_more.bindsN fun _ _ _ _ _ _ us hl => match us, hl with | [_, _, _, _], _ => rfl
theorem b__law_lacking (T : Tx K mg) : Binds K T.fd__law_lacking (["_law_standing", "_law_wished"] : List Str) [] := T.F__law_lacking.bindsN fun _ _ _ _ _ _ us hl => match us, hl with | [_, _], _ => rfl
theorem b__law_over (T : Tx K mg) : Binds K T.fd__law_over (["_law_standing", "_law_spot"] : List Str) [] := T.F__law_over.bindsN fun _ _ _ _ _ _ us hl => match us, hl with | [_, _], _ => rfl
theorem b__law_row (T : Tx K mg) : Binds K T.fd__law_row (["_law_standing", "_law_wished"] : List Str) [] := T.F__law_row.bindsN fun _ _ _ _ _ _ us hl => match us, hl with | [_, _], _ => rfl
theorem b__law_bound (T : Tx K mg) : Binds K T.fd__law_bound (["_law_row_here", "_law_sap", "_law_tall"] : List Str) [] := T.F__law_bound.bindsN fun _ _ _ _ _ _ us hl => match us, hl with | [_, _, _], _ => rfl
theorem b__law_fewest (T : Tx K mg) : Binds K T.fd__law_fewest (["_law_row_here", "_law_sap"] : List Str) [] := T.F__law_fewest.bindsN fun _ _ _ _ _ _ us hl => match us, hl with | [_, _], _ => rfl
theorem b__law_task (T : Tx K mg) : Binds K T.fd__law_task (["_law_hat_here", "_law_trees", "_law_stood", "_law_more_here"] : List Str) [] := T.F__law_task.bindsN fun _ _ _ _ _ _ us hl => match us, hl with | [_, _, _, _], _ => rfl
theorem b__law_free_task (T : Tx K mg) : Binds K T.fd__law_free_task (["_law_hat_here", "_law_trees", "_law_stood", "_law_more_here"] : List Str) [] := T.F__law_free_task.bindsN fun _ _ _ _ _ _ us hl => match us, hl with | [_, _, _, _], _ => rfl
theorem b__law_lots (T : Tx K mg) : Binds K T.fd__law_lots (["_law_ready_here", "_law_sap"] : List Str) [] := T.F__law_lots.bindsN fun _ _ _ _ _ _ us hl => match us, hl with | [_, _], _ => rfl
theorem b__law_ready (T : Tx K mg) : Binds K T.fd__law_ready (["_law_standing", "_law_left"] : List Str) [] := T.F__law_ready.bindsN fun _ _ _ _ _ _ us hl => match us, hl with | [_, _], _ => rfl
theorem b__law_all_plans (T : Tx K mg) : Binds K T.fd__law_all_plans (["_law_standing", "_law_left", "_law_sap", "_law_seasons"] : List Str) [] := T.F__law_all_plans.bindsN fun _ _ _ _ _ _ us hl => match us, hl with | [_, _, _, _], _ => rfl
theorem b__law_all_quickest (T : Tx K mg) : Binds K T.fd__law_all_quickest (["_law_standing", "_law_wished", "_law_sap"] : List Str) [] := T.F__law_all_quickest.bindsN fun _ _ _ _ _ _ us hl => match us, hl with | [_, _, _], _ => rfl
theorem b__law_bent_plan (T : Tx K mg) : Binds K T.fd__law_bent_plan (["_law_hat_here", "_law_seasons", "_law_spots"] : List Str) [] := T.F__law_bent_plan.bindsN fun _ _ _ _ _ _ us hl => match us, hl with | [_, _, _], _ => rfl
theorem b__law_told (T : Tx K mg) : Binds K T.fd__law_told (["_law_standing", "_law_wished", "_law_number", "_law_sap"] : List Str) [] := T.F__law_told.bindsN fun _ _ _ _ _ _ us hl => match us, hl with | [_, _, _, _], _ => rfl
theorem b_law (T : Tx K mg) : Binds K T.fd_law (["_law_script"] : List Str) [] := T.F_law.bindsN fun _ _ _ _ _ _ us hl => match us, hl with | [_], _ => rfl
end
end Pw
end
section
set_option linter.all false
set_option maxRecDepth 100000
set_option maxHeartbeats 0
/-! The head 1: facts by names. -/
namespace Pw
open PySem PySem.Spec PyProof.Rows L2
def d_WallError_init : He.DefD := ⟨("WallError", some "__init__"), "__init__", "WallError.__init__", defArgs (inClass (top 1) 0), defBody (inClass (top 1) 0), defScope (inClass (top 1) 0), [], []⟩
def d_BadNumber_init : He.DefD := ⟨("BadNumber", some "__init__"), "__init__", "BadNumber.__init__", defArgs (inClass (top 6) 0), defBody (inClass (top 6) 0), defScope (inClass (top 6) 0), [.str "refused"], []⟩
def d_is_name : He.DefD := ⟨("is_name", none), "is_name", "is_name", defArgs (top 13), defBody (top 13), defScope (top 13), [], []⟩
def d_is_word : He.DefD := ⟨("is_word", none), "is_word", "is_word", defArgs (top 14), defBody (top 14), defScope (top 14), [], []⟩
def d_beneath : He.DefD := ⟨("beneath", none), "beneath", "beneath", defArgs (top 15), defBody (top 15), defScope (top 15), [], []⟩
def d_closed : He.DefD := ⟨("closed", none), "closed", "closed", defArgs (top 18), defBody (top 18), defScope (top 18), [], []⟩
def d_need_spots : He.DefD := ⟨("need_spots", none), "need_spots", "need_spots", defArgs (top 19), defBody (top 19), defScope (top 19), [], []⟩
def d_trees_of : He.DefD := ⟨("trees_of", none), "trees_of", "trees_of", defArgs (top 20), defBody (top 20), defScope (top 20), [], []⟩
def d_lacking_of : He.DefD := ⟨("lacking_of", none), "lacking_of", "lacking_of", defArgs (top 21), defBody (top 21), defScope (top 21), [], []⟩
def d_in_way_of : He.DefD := ⟨("in_way_of", none), "in_way_of", "in_way_of", defArgs (top 22), defBody (top 22), defScope (top 22), [], []⟩
def d_over_standing : He.DefD := ⟨("over_standing", none), "over_standing", "over_standing", defArgs (top 23), defBody (top 23), defScope (top 23), [], []⟩
def d_row_of : He.DefD := ⟨("row_of", none), "row_of", "row_of", defArgs (top 24), defBody (top 24), defScope (top 24), [], []⟩
def d_need_sap : He.DefD := ⟨("need_sap", none), "need_sap", "need_sap", defArgs (top 27), defBody (top 27), defScope (top 27), [], []⟩
def d_seasons_for : He.DefD := ⟨("seasons_for", none), "seasons_for", "seasons_for", defArgs (top 28), defBody (top 28), defScope (top 28), [], []⟩
def d_bound_at : He.DefD := ⟨("bound_at", none), "bound_at", "bound_at", defArgs (top 29), defBody (top 29), defScope (top 29), [], []⟩
def d_bounds : He.DefD := ⟨("bounds", none), "bounds", "bounds", defArgs (top 30), defBody (top 30), defScope (top 30), [], []⟩
def d_Plan_init : He.DefD := ⟨("Plan", some "__init__"), "__init__", "Plan.__init__", defArgs (inClass (top 31) 0), defBody (inClass (top 31) 0), defScope (inClass (top 31) 0), [.non], []⟩
def d_Plan_len : He.DefD := ⟨("Plan", some "__len__"), "__len__", "Plan.__len__", defArgs (inClass (top 31) 1), defBody (inClass (top 31) 1), defScope (inClass (top 31) 1), [], []⟩
def d_Plan_seasons : He.DefD := ⟨("Plan", some "seasons"), "seasons", "Plan.seasons", defArgs (inClass (top 31) 5), defBody (inClass (top 31) 5), defScope (inClass (top 31) 5), [], []⟩
def d_need_free : He.DefD := ⟨("need_free", none), "need_free", "need_free", defArgs (top 33), defBody (top 33), defScope (top 33), [], []⟩
def d_season_good : He.DefD := ⟨("season_good", none), "season_good", "season_good", defArgs (top 35), defBody (top 35), defScope (top 35), [], []⟩
def d_fault_of : He.DefD := ⟨("fault_of", none), "fault_of", "fault_of", defArgs (top 36), defBody (top 36), defScope (top 36), [], []⟩
def d_Choices_init : He.DefD := ⟨("Choices", some "__init__"), "__init__", "Choices.__init__", defArgs (inClass (top 39) 0), defBody (inClass (top 39) 0), defScope (inClass (top 39) 0), [], []⟩
def d_Choices_place_of : He.DefD := ⟨("Choices", some "place_of"), "place_of", "Choices.place_of", defArgs (inClass (top 39) 1), defBody (inClass (top 39) 1), defScope (inClass (top 39) 1), [], []⟩
def d_Choices_ready : He.DefD := ⟨("Choices", some "ready"), "ready", "Choices.ready", defArgs (inClass (top 39) 2), defBody (inClass (top 39) 2), defScope (inClass (top 39) 2), [], []⟩
def d_Choices_lots : He.DefD := ⟨("Choices", some "lots"), "lots", "Choices.lots", defArgs (inClass (top 39) 3), defBody (inClass (top 39) 3), defScope (inClass (top 39) 3), [], []⟩
def d_Choices_behind : He.DefD := ⟨("Choices", some "behind"), "behind", "Choices.behind", defArgs (inClass (top 39) 4), defBody (inClass (top 39) 4), defScope (inClass (top 39) 4), [], []⟩
def d_Choices_ways : He.DefD := ⟨("Choices", some "ways"), "ways", "Choices.ways", defArgs (inClass (top 39) 5), defBody (inClass (top 39) 5), defScope (inClass (top 39) 5), [], []⟩
def d_choices_for : He.DefD := ⟨("choices_for", none), "choices_for", "choices_for", defArgs (top 40), defBody (top 40), defScope (top 40), [], []⟩
def d_count_in : He.DefD := ⟨("count_in", none), "count_in", "count_in", defArgs (top 41), defBody (top 41), defScope (top 41), [], []⟩
def d_numbered : He.DefD := ⟨("numbered", none), "numbered", "numbered", defArgs (top 42), defBody (top 42), defScope (top 42), [.int 2], []⟩
def d_rank_of : He.DefD := ⟨("rank_of", none), "rank_of", "rank_of", defArgs (top 43), defBody (top 43), defScope (top 43), [.int 2], []⟩
def d__law_hat : He.DefD := ⟨("_law_hat", none), "_law_hat", "_law_hat", defArgs (top 45), defBody (top 45), defScope (top 45), [], []⟩
def d__law_take : He.DefD := ⟨("_law_take", none), "_law_take", "_law_take", defArgs (top 46), defBody (top 46), defScope (top 46), [], []⟩
def d__law_same : He.DefD := ⟨("_law_same", none), "_law_same", "_law_same", defArgs (top 47), defBody (top 47), defScope (top 47), [], []⟩
def d__law_odd : He.DefD := ⟨("_law_odd", none), "_law_odd", "_law_odd", defArgs (top 48), defBody (top 48), defScope (top 48), [], []⟩
def d__law_mixed : He.DefD := ⟨("_law_mixed", none), "_law_mixed", "_law_mixed", defArgs (top 49), defBody (top 49), defScope (top 49), [], []⟩
def d__law_names : He.DefD := ⟨("_law_names", none), "_law_names", "_law_names", defArgs (top 50), defBody (top 50), defScope (top 50), [], []⟩
def d__law_ends : He.DefD := ⟨("_law_ends", none), "_law_ends", "_law_ends", defArgs (top 51), defBody (top 51), defScope (top 51), [], []⟩
def d__law_words : He.DefD := ⟨("_law_words", none), "_law_words", "_law_words", defArgs (top 52), defBody (top 52), defScope (top 52), [], []⟩
def d__law_grove : He.DefD := ⟨("_law_grove", none), "_law_grove", "_law_grove", defArgs (top 53), defBody (top 53), defScope (top 53), [], []⟩
def d__law_more : He.DefD := ⟨("_law_more", none), "_law_more", "_law_more", defArgs (top 54), defBody (top 54), defScope (top 54), [], []⟩
def d__law_lacking : He.DefD := ⟨("_law_lacking", none), "_law_lacking", "_law_lacking", defArgs (top 55), defBody (top 55), defScope (top 55), [], []⟩
def d__law_over : He.DefD := ⟨("_law_over", none), "_law_over", "_law_over", defArgs (top 56), defBody (top 56), defScope (top 56), [], []⟩
def d__law_row : He.DefD := ⟨("_law_row", none), "_law_row", "_law_row", defArgs (top 57), defBody (top 57), defScope (top 57), [], []⟩
def d__law_bound : He.DefD := ⟨("_law_bound", none), "_law_bound", "_law_bound", defArgs (top 58), defBody (top 58), defScope (top 58), [], []⟩
def d__law_fewest : He.DefD := ⟨("_law_fewest", none), "_law_fewest", "_law_fewest", defArgs (top 59), defBody (top 59), defScope (top 59), [], []⟩
def d__law_task : He.DefD := ⟨("_law_task", none), "_law_task", "_law_task", defArgs (top 60), defBody (top 60), defScope (top 60), [], []⟩
def d__law_free_task : He.DefD := ⟨("_law_free_task", none), "_law_free_task", "_law_free_task", defArgs (top 61), defBody (top 61), defScope (top 61), [], []⟩
def d__law_lots : He.DefD := ⟨("_law_lots", none), "_law_lots", "_law_lots", defArgs (top 62), defBody (top 62), defScope (top 62), [], []⟩
def d__law_ready : He.DefD := ⟨("_law_ready", none), "_law_ready", "_law_ready", defArgs (top 63), defBody (top 63), defScope (top 63), [], []⟩
def d__law_all_plans : He.DefD := ⟨("_law_all_plans", none), "_law_all_plans", "_law_all_plans", defArgs (top 64), defBody (top 64), defScope (top 64), [], []⟩
def d__law_all_quickest : He.DefD := ⟨("_law_all_quickest", none), "_law_all_quickest", "_law_all_quickest", defArgs (top 65), defBody (top 65), defScope (top 65), [], []⟩
def d__law_bent_plan : He.DefD := ⟨("_law_bent_plan", none), "_law_bent_plan", "_law_bent_plan", defArgs (top 66), defBody (top 66), defScope (top 66), [], []⟩
def d__law_told : He.DefD := ⟨("_law_told", none), "_law_told", "_law_told", defArgs (top 67), defBody (top 67), defScope (top 67), [], []⟩
def d_law : He.DefD := ⟨("law", none), "law", "law", defArgs (top 68), defBody (top 68), defScope (top 68), [], []⟩
def fn : List He.DefD := [d_WallError_init, d_BadNumber_init, d_is_name, d_is_word, d_beneath, d_closed, d_need_spots, d_trees_of, d_lacking_of, d_in_way_of, d_over_standing, d_row_of, d_need_sap, d_seasons_for, d_bound_at, d_bounds, d_Plan_init, d_Plan_len, d_Plan_seasons, d_need_free, d_season_good, d_fault_of, d_Choices_init, d_Choices_place_of, d_Choices_ready, d_Choices_lots, d_Choices_behind, d_Choices_ways, d_choices_for, d_count_in, d_numbered, d_rank_of, d__law_hat, d__law_take, d__law_same, d__law_odd, d__law_mixed, d__law_names, d__law_ends, d__law_words, d__law_grove, d__law_more, d__law_lacking, d__law_over, d__law_row, d__law_bound, d__law_fewest, d__law_task, d__law_free_task, d__law_lots, d__law_ready, d__law_all_plans, d__law_all_quickest, d__law_bent_plan, d__law_told, d_law]
def fa : List He.Fa := [.glo "is_name", .glo "is_word", .glo "beneath", .glo "closed", .glo "need_spots", .glo "trees_of", .glo "lacking_of", .glo "in_way_of", .glo "over_standing", .glo "row_of", .glo "need_sap", .glo "seasons_for", .glo "bound_at", .glo "bounds", .meth "Plan" "__len__", .meth "Plan" "seasons", .glo "need_free", .glo "season_good", .glo "fault_of", .meth "Choices" "place_of", .meth "Choices" "ready", .meth "Choices" "lots", .meth "Choices" "behind", .meth "Choices" "ways", .glo "choices_for", .glo "count_in", .glo "numbered", .glo "rank_of", .glo "_law_hat", .glo "_law_take", .glo "_law_same", .glo "_law_odd", .glo "_law_mixed", .glo "_law_names", .glo "_law_ends", .glo "_law_words", .glo "_law_grove", .glo "_law_more", .glo "_law_lacking", .glo "_law_over", .glo "_law_row", .glo "_law_bound", .glo "_law_fewest", .glo "_law_task", .glo "_law_free_task", .glo "_law_lots", .glo "_law_ready", .glo "_law_all_plans", .glo "_law_all_quickest", .glo "_law_bent_plan", .glo "_law_told", .glo "law", .glo "Plan", .cls "Plan", .mkr "Plan", .glo "Choices", .cls "Choices", .mkr "Choices", .noat "Choices" "missing", .noat "Choices" "most", .noat "Choices" "below", .noat "Choices" "known", .noat "Plan" "steps", .free "len", .free "all", .free "dict", .free "sorted", .free "set", .free "enumerate", .free "max", .free "range", .free "list", .free "sum", .free "tuple", .free "int", .free "isinstance", .free "zip", .free "KeyError", .free "ValueError", .free "str", .free "bool", .glo "BadNumber", .keep "BadNumber", .glo "WallError", .keep "WallError", .exm "BadNumber" "BadNumber" true, .int "LONGEST_NAME" 8, .int "TALLEST" 16, .int "MOST_SAP" 300, .int "MOST_LACKING" 10, .str "LETTERS" "abcdefghijklmnopqrstuvwxyz", .str "WAYS" "lur"]
def loose0 : List Str := ["WallError", "BadSpots", "NoTree", "BadSap", "TooMany", "BadNumber", "InWay", "LETTERS", "LONGEST_NAME", "WAYS", "TALLEST", "is_name", "is_word", "beneath", "shown", "closed", "need_spots", "trees_of", "lacking_of", "in_way_of", "over_standing", "row_of", "MOST_SAP", "need_sap", "seasons_for", "bound_at", "bounds", "Plan", "spots_text", "need_free"]
def loose1 : List Str := ["season_good", "fault_of", "MOST_LACKING", "Choices", "choices_for", "count_in", "numbered", "rank_of", "_law_hat", "_law_take", "_law_same", "_law_odd", "_law_mixed", "_law_names", "_law_ends", "_law_words", "_law_grove", "_law_more", "_law_lacking", "_law_over", "_law_row", "_law_bound", "_law_fewest", "_law_task", "_law_free_task", "_law_lots", "_law_ready", "_law_all_plans", "_law_all_quickest", "_law_bent_plan"]
def loose2 : List Str := ["_law_told"]
def loose : List Str := loose0 ++ loose1 ++ loose2
/-! ### the exception's classes -/
def oexB (K : Fg) (C : Addr) : Bool := match K.lookup C with
  | some ⟨.type t, _, .cls cd, sl⟩ => (match cd.mro, sl.toList with
    | .ref D :: bm, [_, _, _, _, some (.builtin n), _] => decide (t = "type") && (decide (D = C) && (decide (n = "ValueError.__new__") && (!cd.hasDel && (cd.hasDict && PySem.HandSPX.refsVE bm))))
    | _, _ => false)
  | _ => false
def valB (r : Option PySem.W.CFound) (v : Value) : Bool := match r with
  | some (.val u) => decide (u = v)
  | _ => false
def exB (K : Fg) : Bool :=
  oexB K (He.ga K "BadNumber") && (He.eqO (PySem.W.findIn K (.ref (He.ga K "BadNumber")) "__setattr__") (some (some (.builtin "object.__setattr__"))) && (decide (PySem.W.subIn K (.ref (He.ga K "BadNumber")) (.type "BaseException") = some true) && (decide (PySem.W.typeIn K (.ref (He.ga K "BadNumber")) = some (.type "type")) && (PySem.W.keepIn K (.ref (He.ga K "BadNumber")) &&
  (He.eqO (PySem.W.findIn K (.ref (He.ga K "BadNumber")) "called") (some none) && (He.eqO (PySem.W.findIn K (.ref (He.ga K "BadNumber")) "__init__") (some (some (.ref (He.ma K (He.ga K "BadNumber") "__init__")))) && (decide (PySem.W.typeIn K (.ref (He.ma K (He.ga K "BadNumber") "__init__")) = some (.type "function")) &&
  (PySem.W.readsIn K (He.ga K "WallError") (.type "type") && (valB (PySem.W.findCls K (.ref (He.ga K "WallError")) (.type "type") "__init__") (.ref (He.ma K (He.ga K "WallError") "__init__")) && valB (PySem.W.findCls K (.type "ValueError") (.type "type") "__init__") (.builtin "ValueError.__init__"))))))))))
/-! ### the Hook -/
abbrev AlP : Type := He.AlD × Bool
def asP (g : Addr → Option Obj) (n : Nat) : List Addr := He.asD g n ++ [cStatics]
def obsP (K : Fg) : AlP := (He.obsD fa fn K, exB K)
def valP : AlP := (He.valD fn, true)
def obsPG (n : Nat) (g : Addr → Option Obj) : AlP := obsP (He.frG g (asP g n))
def SaysP (K : Fg) : Prop := obsP K = valP
def hookP (n : Nat) : PySem.W.Hook where
  α := AlP
  obs := fun s => obsPG n s.heap.get?
  val := fun _ => valP
  says := fun _ h => ∃ K : PySem.W.Frag, K.In h ∧ SaysP K
  of := fun _ _ e => ⟨_, He.frG_in, e⟩
  keeps := fun _ _ _ ⟨K, hK, c⟩ k => ⟨K, PySem.W.Frag.In.keeps hK k, c⟩
theorem obsPG_eq {n : Nat} {g : Addr → Option Obj} {s : Shared} (h : ∀ a, g a = s.heap.get? a) : obsPG n g = (hookP n).obs s := by
  have e : g = s.heap.get? := funext h
  rw [e] <;> rfl
theorem SaysP.d {K : Fg} (c : SaysP K) : He.SaysD fa fn K := congrArg (fun z : AlP => z.1) c
theorem SaysP.x {K : Fg} (c : SaysP K) : exB K = true := congrArg (fun z : AlP => z.2) c
end Pw
end
section
set_option linter.all false
set_option maxRecDepth 100000
set_option maxHeartbeats 0
/-! The head 2: the top's run. -/
namespace Pw
open PySem PySem.Spec PyProof.Rows L2
abbrev R : PySem.W.OpenRow := PySem.W.OpenLaw.row PySem.Challenge.rw_pleachwall_k26_whole_plans_by_their_numb
abbrev hk : PySem.W.Hook := hookP 5
def ob (s : PySem.W.SharedT) : AlP := obsPG 5 (HandSHeadRun.getT s)
theorem ob_eq (s : PySem.W.SharedT) : ob s = hk.obs s.abs := obsPG_eq (HandSHeadRun.getT_eq s)
theorem run (w : World) : HandSHeadRun.RunEq R (PySem.W.view R.prog [68]) hk ob 20000 loose w := by
  intro os
  kernel_rfl
end Pw
end
section
set_option linter.all false
set_option maxRecDepth 100000
set_option maxHeartbeats 2000000
/-! Rules 1: new objects as data, comprehensions that make data, slices. -/
namespace Pw
open PySem PySem.Spec PyProof.Rows L2
section
variable {α β : Type} [LT α] [STO α] [DecidableEq α] [DecidableLT α] [LT β] [STO β] [DecidableEq β] [DecidableLT β] {A : Enc α} {B : Enc β} {S : List Addr} {H H' H0 : Hp} {p D : Addr} {xs : List V} {v x y : V}
/-! ### new objects -/
theorem hd_new {o : HO} (w : Own S H) (h : H p = none) : Hd S (upd H p o) p = some o := by
  rw [Hd_at (w.new h)]; exact upd_same
theorem at_new {l : List α} (w : Own S H) (h : H p = none) (k : Ats (Hd S H) A xs l) : At (Hd S (upd H p (.lst xs))) (eList A) (.ref p) l :=
  .of_list (hd_new w h) (k.same (same_hd (same_up h)))
theorem at_newP {a : α} {b : β} (w : Own S H) (h : H p = none) (ha : At (Hd S H) A x a) (hb : At (Hd S H) B y b) : At (Hd S (upd H p (.tup [x, y]))) (ePair A B) (.ref p) (a, b) :=
  .of_pair (hd_new w h) (ha.same (same_hd (same_up h))) (hb.same (same_hd (same_up h)))
theorem at_newS {a b : W} (w : Own S H) (h : H p = none) (ha : okW a) (hb : okW b) : At (Hd S (upd H p (.tup [.str (tx a), .str (tx b)]))) eSpot (.ref p) (a, b) := at_newP w h (.of_str ha) (.of_str hb)
theorem own_up {o : HO} (w : Own S H) (h : H p = none) : Own S (upd H p o) := w.same (same_up h)
theorem own_in {l : Addr} {o : HO} (w : Own S H) (h : H l = none) : Own (l :: S) (upd H l o) := (w.same (same_up h)).cons upd_same
/-- what stood ahead of a new owned object -/
theorem At.into {a : α} (h : At (Hd S H0) A v a) (e : Same H0 H) (n : H0 D = none) : At (Hd (D :: S) H) A v a := h.same fun b o q => by
  obtain ⟨q1, q2⟩ := Hd_some q
  rw [Hd_at]
  · exact e b o q2
  · intro z
    rcases List.mem_cons.mp z with z | z
    · rw [z, n] at q2; cases q2
    · exact q1 z
theorem Ats.into {l : List α} (h : Ats (Hd S H0) A xs l) (e : Same H0 H) (n : H0 D = none) : Ats (Hd (D :: S) H) A xs l := h.same fun b o q => by
  obtain ⟨q1, q2⟩ := Hd_some q
  rw [Hd_at]
  · exact e b o q2
  · intro z
    rcases List.mem_cons.mp z with z | z
    · rw [z, n] at q2; cases q2
    · exact q1 z
theorem Ats.out {l : List α} (h : Ats (Hd (D :: S) H) A xs l) : Ats (Hd S H) A xs l := h.same (hd_out fun b hb => List.mem_cons_of_mem _ hb)
theorem At.out {a : α} (h : At (Hd (D :: S) H) A v a) : At (Hd S H) A v a := h.same (hd_out fun b hb => List.mem_cons_of_mem _ hb)
theorem At.up {a : α} (h : At (Hd S H) A v a) (e : Same H H') : At (Hd S H') A v a := h.same (same_hd e)
theorem Ats.up {l : List α} (h : Ats (Hd S H) A xs l) (e : Same H H') : Ats (Hd S H') A xs l := h.same (same_hd e)
/-- an owned list is let go -/
theorem at_of_own {l : List α} (h : H D = some (.lst xs)) (n : D ∉ S) (k : Ats (Hd (D :: S) H) A xs l) : At (Hd S H) (eList A) (.ref D) l := .of_list (by rw [Hd_at n]; exact h) k.out
theorem ats_nats {G : Hp} : ∀ l : List Nat, Ats G eNat (l.map fun n => V.int (n : Nat)) l
  | [] => .nil
  | n :: l => .cons .of_nat (ats_nats l)
theorem ats_ints {G : Hp} : ∀ l : List Int, Ats G eInt (l.map V.int) l
  | [] => .nil
  | n :: l => .cons .of_int (ats_ints l)
theorem nats_of {G : Hp} : ∀ {vs : List V} {l : List Nat}, Ats G eNat vs l → vs = l.map fun n => V.int (n : Nat)
  | [], [], _ => rfl
  | [], _ :: _, h => by have := h.len; cases this
  | _ :: _, [], h => by have := h.len; cases this
  | v :: vs, n :: l, h => by
    obtain ⟨h1, h2⟩ := h
    cases h1 with
    | cons a b =>
      have e : v = .int n := (show At G eNat v n from ⟨a, trivial⟩).nat
      rw [e, nats_of (vs := vs) (l := l) ⟨b, fun x hx => h2 x (List.mem_cons_of_mem _ hx)⟩]
      rfl
theorem strs_of {G : Hp} : ∀ {vs : List V} {l : List W}, Ats G eStr vs l → vs = l.map fun w => V.str (tx w)
  | [], [], _ => rfl
  | [], _ :: _, h => by have := h.len; cases this
  | _ :: _, [], h => by have := h.len; cases this
  | v :: vs, n :: l, h => by
    obtain ⟨h1, h2⟩ := h
    cases h1 with
    | cons a b =>
      have e : v = .str (tx n) := (show At G eStr v n from ⟨a, h2 n List.mem_cons_self⟩).str
      rw [e, strs_of (vs := vs) (l := l) ⟨b, fun x hx => h2 x (List.mem_cons_of_mem _ hx)⟩]
      rfl
theorem ats_strs {G : Hp} : ∀ {l : List W}, (∀ w ∈ l, okW w) → Ats G eStr (l.map fun w => V.str (tx w)) l
  | [], _ => .nil
  | n :: l, h => .cons (.of_str (h n List.mem_cons_self)) (ats_strs fun w hw => h w (List.mem_cons_of_mem _ hw))
end
/-! ### comprehensions -/
section
variable {α β : Type} [LT α] [STO α] [DecidableEq α] [DecidableLT α] [LT β] [STO β] [DecidableEq β] [DecidableLT β] {A : Enc α} {B : Enc β} {S : List Addr} {H0 : Hp} {D : Addr}
  {K : Fg} {g : TG} {tt : TT} {te : TE} {vs : List Nat} {σ : L2.St} {Qd : Hp → Prop}
/-- data are made, each in a turn over any iterator: acc i what is made in i turns -/
theorem lc_any {J : It} {n : Nat} (acc : Nat → List β) (h0 : acc 0 = []) (hlen : ∀ i, i ≤ n → (acc i).length ≤ i) (hn : n ≤ sizeLine) (w : Own S H0) (hD : H0 D = none)
    (src : ∀ i H, Same H0 H → (i < n → J.go i H) ∧ (i = n → J.stop i H))
    (turn : ∀ i x H H', i < n → Same H0 H → Own (D :: S) H → J.yld i H x H' → Same H H' ∧ ∀ (NF : Hp → Prop) (NT : Hp → V → Prop),
      (acc (i + 1) = acc i → ∀ H3, Same H' H3 → NF H3) → (∀ z, acc (i + 1) = acc i ++ [z] → ∀ H4 y, Same H' H4 → At (Hd (D :: S) H4) B y z → NT H4 y) →
      g x (wipe σ vs) H' fun σ2 H2 => wipe σ2 vs = wipe σ vs ∧ tt σ2 H2 fun b H3 => if b = true then te σ2 H3 fun y H4 => NT H4 y else NF H3)
    (done : ∀ H, Same H0 H → At (Hd S H) (eList B) (.ref D) (acc n) → Qd H) :
    ∃ W : Nat → Nat → Hp → Prop, (∃ m, W 0 m (upd H0 D (.lst []))) ∧ ∀ i m H, W i m H →
      (J.stop i H ∧ Qd H) ∨ (J.go i H ∧ ∃ Nx : Hp → Prop, (∀ H', Nx H' → ∃ m', m' < m ∧ W (i + 1) m' H') ∧ ∀ x H', J.yld i H x H' → g x (wipe σ vs) H' fun σ2 H2 => wipe σ2 vs = wipe σ vs ∧ tt σ2 H2 fun b H3 =>
        if b = true then te σ2 H3 fun y H4 => ∃ acc, H4 D = some (.lst acc) ∧ acc.length < sizeLine ∧ Nx (upd H4 D (.lst (acc ++ [y]))) else Nx H3) := by
  refine ⟨fun i m H => m = n - i ∧ i ≤ n ∧ Same H0 H ∧ ∃ us, H D = some (.lst us) ∧ Ats (Hd (D :: S) H) B us (acc i), ⟨n, by simp, Nat.zero_le _, same_up hD, [], upd_same, by rw [h0]; exact .nil⟩, ?_⟩
  rintro i m H ⟨rfl, hi, sm, us, hu, ha⟩
  have wD : Own (D :: S) H := (w.same sm).cons hu
  by_cases hlt : i < n
  · refine .inr ⟨(src i H sm).1 hlt, fun H' => Same H0 H' ∧ ∃ us, H' D = some (.lst us) ∧ Ats (Hd (D :: S) H') B us (acc (i + 1)), fun H' p' => ⟨n - (i + 1), by omega, rfl, hlt, p'⟩, fun x H' hy => ?_⟩
    obtain ⟨s1, t⟩ := turn i x H H' hlt sm wD hy
    refine t _ _ (fun e H3 s3 => ?_) (fun z e H4 y s4 hy => ?_)
    · have s5 := s1.trans s3
      refine ⟨sm.trans s5, us, s5 _ _ hu, ?_⟩
      rw [e]
      exact ha.up s5
    · have s5 := s1.trans s4
      have hul : us.length < sizeLine := by
        rw [ha.len]
        have := hlen i (Nat.le_of_lt hlt)
        omega
      refine ⟨us, s5 _ _ hu, hul, fun b o q => ?_, us ++ [y], upd_same, ?_⟩
      · rw [upd_ne (ne_of_none q hD)]
        exact s5 _ _ (sm _ _ q)
      · rw [hd_upd List.mem_cons_self, e]
        exact (ha.up s5).app (.one hy)
  · have e : i = n := by omega
    subst e
    refine .inl ⟨(src i H sm).2 rfl, done H sm (at_of_own hu (fun z => w D z hD) ha)⟩
/-- over a list of data -/
theorem lc_at {L : List α} {a : Addr} {xs : List V} (p : α → Bool) (f : α → β) (w : Own S H0) (hD : H0 D = none) (ha : Hd S H0 a = some (.lst xs)) (hx : Ats (Hd S H0) A xs L) (hn : L.length ≤ sizeLine)
    (turn : ∀ x ∈ L, ∀ v H, Same H0 H → Own (D :: S) H → At (Hd (D :: S) H) A v x → ∀ (NF : Hp → Prop) (NT : Hp → V → Prop),
      (p x = false → ∀ H', Same H H' → NF H') → (p x = true → ∀ H' y, Same H H' → At (Hd (D :: S) H') B y (f x) → NT H' y) →
      g v (wipe σ vs) H fun σ2 H2 => wipe σ2 vs = wipe σ vs ∧ tt σ2 H2 fun b H3 => if b = true then te σ2 H3 fun y H4 => NT H4 y else NF H3)
    (done : ∀ H, Same H0 H → At (Hd S H) (eList B) (.ref D) ((L.filter p).map f) → Qd H) :
    ∃ W : Nat → Nat → Hp → Prop, (∃ m, W 0 m (upd H0 D (.lst []))) ∧ ∀ i m H, W i m H →
      ((Itl K a).stop i H ∧ Qd H) ∨ ((Itl K a).go i H ∧ ∃ Nx : Hp → Prop, (∀ H', Nx H' → ∃ m', m' < m ∧ W (i + 1) m' H') ∧ ∀ x H', (Itl K a).yld i H x H' → g x (wipe σ vs) H' fun σ2 H2 => wipe σ2 vs = wipe σ vs ∧ tt σ2 H2 fun b H3 =>
        if b = true then te σ2 H3 fun y H4 => ∃ acc, H4 D = some (.lst acc) ∧ acc.length < sizeLine ∧ Nx (upd H4 D (.lst (acc ++ [y]))) else Nx H3) := by
  have h1 : ∀ H, Same H0 H → SqL K H a xs := fun H sm => .of (sm _ _ (Hd_some ha).2)
  have ll := hx.len
  refine lc_any (B := B) (J := Itl K a) (n := L.length) (fun i => ((L.take i).filter p).map f) rfl (fun i hi => ?_) hn w hD (fun i H sm => ⟨fun hi => ?_, fun hi => ?_⟩) (fun i x H H' hi sm wD hy => ?_) (fun H sm q => ?_)
  · show (((L.take i).filter p).map f).length ≤ i
    rw [List.length_map]
    exact Nat.le_trans (List.length_filter_le _ _) (by rw [List.length_take]; exact Nat.min_le_left _ _)
  · exact ⟨xs, xs[i]'(by omega), h1 H sm, List.getElem?_eq_getElem (by omega)⟩
  · exact ⟨xs, h1 H sm, by omega⟩
  · obtain ⟨rfl, hy⟩ := hy
    have hx1 := hy xs (h1 _ sm)
    obtain ⟨z, hz, az⟩ := hx.at hx1
    have et : L.take (i + 1) = L.take i ++ [z] := by rw [List.take_add_one, hz]; rfl
    refine ⟨.refl _, fun NF NT k1 k2 => turn z (List.mem_of_getElem? hz) x _ sm wD (az.into sm hD) NF NT (fun hp => k1 ?_) (fun hp => k2 (f z) ?_)⟩
    · show ((L.take (i + 1)).filter p).map f = _
      rw [et, List.filter_append, List.filter_cons, hp]
      simp
    · show ((L.take (i + 1)).filter p).map f = _
      rw [et, List.filter_append, List.filter_cons, hp]
      simp
  · exact done H sm (by rw [List.take_length] at q; exact q)
/-- over a range of n numbers from lo on -/
theorem lc_rng {lo : Int} {n : Nat} (p : Nat → Bool) (f : Nat → β) (w : Own S H0) (hD : H0 D = none) (hn : n ≤ sizeLine)
    (turn : ∀ i, i < n → ∀ H, Same H0 H → Own (D :: S) H → ∀ (NF : Hp → Prop) (NT : Hp → V → Prop),
      (p i = false → ∀ H', Same H H' → NF H') → (p i = true → ∀ H' y, Same H H' → At (Hd (D :: S) H') B y (f i) → NT H' y) →
      g (.int (lo + i)) (wipe σ vs) H fun σ2 H2 => wipe σ2 vs = wipe σ vs ∧ tt σ2 H2 fun b H3 => if b = true then te σ2 H3 fun y H4 => NT H4 y else NF H3)
    (done : ∀ H, Same H0 H → At (Hd S H) (eList B) (.ref D) (((List.range n).filter p).map f) → Qd H) :
    ∃ W : Nat → Nat → Hp → Prop, (∃ m, W 0 m (upd H0 D (.lst []))) ∧ ∀ i m H, W i m H →
      ((Itr lo n).stop i H ∧ Qd H) ∨ ((Itr lo n).go i H ∧ ∃ Nx : Hp → Prop, (∀ H', Nx H' → ∃ m', m' < m ∧ W (i + 1) m' H') ∧ ∀ x H', (Itr lo n).yld i H x H' → g x (wipe σ vs) H' fun σ2 H2 => wipe σ2 vs = wipe σ vs ∧ tt σ2 H2 fun b H3 =>
        if b = true then te σ2 H3 fun y H4 => ∃ acc, H4 D = some (.lst acc) ∧ acc.length < sizeLine ∧ Nx (upd H4 D (.lst (acc ++ [y]))) else Nx H3) := by
  refine lc_any (B := B) (J := Itr lo n) (n := n) (fun i => ((List.range i).filter p).map f) rfl (fun i hi => ?_) hn w hD (fun i H sm => ⟨fun hi => hi, fun hi => Nat.le_of_eq hi.symm⟩) (fun i x H H' hi sm wD hy => ?_) done
  · show (((List.range i).filter p).map f).length ≤ i
    rw [List.length_map]
    exact Nat.le_trans (List.length_filter_le _ _) (by rw [List.length_range]; exact Nat.le_refl _)
  · obtain ⟨rfl, rfl⟩ := hy
    refine ⟨.refl _, fun NF NT k1 k2 => turn i hi _ sm wD NF NT (fun hp => k1 ?_) (fun hp => k2 (f i) ?_)⟩
    · show ((List.range (i + 1)).filter p).map f = _
      rw [List.range_succ, List.filter_append, List.filter_cons, hp]
      simp
    · show ((List.range (i + 1)).filter p).map f = _
      rw [List.range_succ, List.filter_append, List.filter_cons, hp]
      simp
/-- values that lean on nothing, over any iterator: bools, numbers -/
theorem lc_val {J : It} {n : Nat} (acc : Nat → List V) (h0 : acc 0 = []) (hlen : ∀ i, i ≤ n → (acc i).length ≤ i) (hn : n ≤ sizeLine) (hD : H0 D = none)
    (src : ∀ i H, Same H0 H → (i < n → J.go i H) ∧ (i = n → J.stop i H))
    (turn : ∀ i x H H', i < n → Same H0 H → J.yld i H x H' → Same H H' ∧ ∀ (NF : Hp → Prop) (NT : Hp → V → Prop),
      (acc (i + 1) = acc i → ∀ H3, Same H' H3 → NF H3) → (∀ y, acc (i + 1) = acc i ++ [y] → ∀ H4, Same H' H4 → NT H4 y) →
      g x (wipe σ vs) H' fun σ2 H2 => wipe σ2 vs = wipe σ vs ∧ tt σ2 H2 fun b H3 => if b = true then te σ2 H3 fun y H4 => NT H4 y else NF H3)
    (done : ∀ H, Same H0 H → H D = some (.lst (acc n)) → Qd H) :
    ∃ W : Nat → Nat → Hp → Prop, (∃ m, W 0 m (upd H0 D (.lst []))) ∧ ∀ i m H, W i m H →
      (J.stop i H ∧ Qd H) ∨ (J.go i H ∧ ∃ Nx : Hp → Prop, (∀ H', Nx H' → ∃ m', m' < m ∧ W (i + 1) m' H') ∧ ∀ x H', J.yld i H x H' → g x (wipe σ vs) H' fun σ2 H2 => wipe σ2 vs = wipe σ vs ∧ tt σ2 H2 fun b H3 =>
        if b = true then te σ2 H3 fun y H4 => ∃ acc, H4 D = some (.lst acc) ∧ acc.length < sizeLine ∧ Nx (upd H4 D (.lst (acc ++ [y]))) else Nx H3) := by
  refine ⟨fun i m H => m = n - i ∧ i ≤ n ∧ Same H0 H ∧ H D = some (.lst (acc i)), ⟨n, by simp, Nat.zero_le _, same_up hD, by rw [h0]; exact upd_same⟩, ?_⟩
  rintro i m H ⟨rfl, hi, sm, hu⟩
  by_cases hlt : i < n
  · refine .inr ⟨(src i H sm).1 hlt, fun H' => Same H0 H' ∧ H' D = some (.lst (acc (i + 1))), fun H' p' => ⟨n - (i + 1), by omega, rfl, hlt, p'⟩, fun x H' hy => ?_⟩
    obtain ⟨s1, t⟩ := turn i x H H' hlt sm hy
    refine t _ _ (fun e H3 s3 => ?_) (fun y e H4 s4 => ?_)
    · have s5 := s1.trans s3
      exact ⟨sm.trans s5, by rw [e]; exact s5 _ _ hu⟩
    · have s5 := s1.trans s4
      have := hlen i (Nat.le_of_lt hlt)
      refine ⟨acc i, s5 _ _ hu, by omega, fun b o q => ?_, by rw [e]; exact upd_same⟩
      rw [upd_ne (ne_of_none q hD)]
      exact s5 _ _ (sm _ _ q)
  · have e : i = n := by omega
    subst e
    exact .inl ⟨(src i H sm).2 rfl, done H sm hu⟩
/-- .. over a list of data -/
theorem lc_atV {L : List α} {a : Addr} {xs : List V} (p : α → Bool) (f : α → V) (hD : H0 D = none) (ha : Hd S H0 a = some (.lst xs)) (hx : Ats (Hd S H0) A xs L) (hn : L.length ≤ sizeLine)
    (turn : ∀ x ∈ L, ∀ v H, Same H0 H → At (Hd S H) A v x → ∀ (NF : Hp → Prop) (NT : Hp → V → Prop),
      (p x = false → ∀ H', Same H H' → NF H') → (p x = true → ∀ H', Same H H' → NT H' (f x)) →
      g v (wipe σ vs) H fun σ2 H2 => wipe σ2 vs = wipe σ vs ∧ tt σ2 H2 fun b H3 => if b = true then te σ2 H3 fun y H4 => NT H4 y else NF H3)
    (done : ∀ H, Same H0 H → H D = some (.lst ((L.filter p).map f)) → Qd H) :
    ∃ W : Nat → Nat → Hp → Prop, (∃ m, W 0 m (upd H0 D (.lst []))) ∧ ∀ i m H, W i m H →
      ((Itl K a).stop i H ∧ Qd H) ∨ ((Itl K a).go i H ∧ ∃ Nx : Hp → Prop, (∀ H', Nx H' → ∃ m', m' < m ∧ W (i + 1) m' H') ∧ ∀ x H', (Itl K a).yld i H x H' → g x (wipe σ vs) H' fun σ2 H2 => wipe σ2 vs = wipe σ vs ∧ tt σ2 H2 fun b H3 =>
        if b = true then te σ2 H3 fun y H4 => ∃ acc, H4 D = some (.lst acc) ∧ acc.length < sizeLine ∧ Nx (upd H4 D (.lst (acc ++ [y]))) else Nx H3) := by
  have h1 : ∀ H, Same H0 H → SqL K H a xs := fun H sm => .of (sm _ _ (Hd_some ha).2)
  have ll := hx.len
  refine lc_val (J := Itl K a) (n := L.length) (fun i => ((L.take i).filter p).map f) rfl (fun i hi => ?_) hn hD (fun i H sm => ⟨fun hi => ?_, fun hi => ?_⟩) (fun i x H H' hi sm hy => ?_) (fun H sm q => ?_)
  · show (((L.take i).filter p).map f).length ≤ i
    rw [List.length_map]
    exact Nat.le_trans (List.length_filter_le _ _) (by rw [List.length_take]; exact Nat.min_le_left _ _)
  · exact ⟨xs, xs[i]'(by omega), h1 H sm, List.getElem?_eq_getElem (by omega)⟩
  · exact ⟨xs, h1 H sm, by omega⟩
  · obtain ⟨rfl, hy⟩ := hy
    have hx1 := hy xs (h1 _ sm)
    obtain ⟨z, hz, az⟩ := hx.at hx1
    have et : L.take (i + 1) = L.take i ++ [z] := by rw [List.take_add_one, hz]; rfl
    refine ⟨.refl _, fun NF NT k1 k2 => turn z (List.mem_of_getElem? hz) x _ sm (az.up sm) NF NT (fun hp => k1 ?_) (fun hp => k2 (f z) ?_)⟩
    · show ((L.take (i + 1)).filter p).map f = _
      rw [et, List.filter_append, List.filter_cons, hp]
      simp
    · show ((L.take (i + 1)).filter p).map f = _
      rw [et, List.filter_append, List.filter_cons, hp]
      simp
  · exact done H sm (by rw [List.take_length] at q; exact q)
/-- .. over a range -/
theorem lc_rngV {lo : Int} {n : Nat} (p : Nat → Bool) (f : Nat → V) (hD : H0 D = none) (hn : n ≤ sizeLine)
    (turn : ∀ i, i < n → ∀ H, Same H0 H → ∀ (NF : Hp → Prop) (NT : Hp → V → Prop),
      (p i = false → ∀ H', Same H H' → NF H') → (p i = true → ∀ H', Same H H' → NT H' (f i)) →
      g (.int (lo + i)) (wipe σ vs) H fun σ2 H2 => wipe σ2 vs = wipe σ vs ∧ tt σ2 H2 fun b H3 => if b = true then te σ2 H3 fun y H4 => NT H4 y else NF H3)
    (done : ∀ H, Same H0 H → H D = some (.lst (((List.range n).filter p).map f)) → Qd H) :
    ∃ W : Nat → Nat → Hp → Prop, (∃ m, W 0 m (upd H0 D (.lst []))) ∧ ∀ i m H, W i m H →
      ((Itr lo n).stop i H ∧ Qd H) ∨ ((Itr lo n).go i H ∧ ∃ Nx : Hp → Prop, (∀ H', Nx H' → ∃ m', m' < m ∧ W (i + 1) m' H') ∧ ∀ x H', (Itr lo n).yld i H x H' → g x (wipe σ vs) H' fun σ2 H2 => wipe σ2 vs = wipe σ vs ∧ tt σ2 H2 fun b H3 =>
        if b = true then te σ2 H3 fun y H4 => ∃ acc, H4 D = some (.lst acc) ∧ acc.length < sizeLine ∧ Nx (upd H4 D (.lst (acc ++ [y]))) else Nx H3) := by
  refine lc_val (J := Itr lo n) (n := n) (fun i => ((List.range i).filter p).map f) rfl (fun i hi => ?_) hn hD (fun i H sm => ⟨fun hi => hi, fun hi => Nat.le_of_eq hi.symm⟩) (fun i x H H' hi sm hy => ?_) done
  · show (((List.range i).filter p).map f).length ≤ i
    rw [List.length_map]
    exact Nat.le_trans (List.length_filter_le _ _) (by rw [List.length_range]; exact Nat.le_refl _)
  · obtain ⟨rfl, rfl⟩ := hy
    refine ⟨.refl _, fun NF NT k1 k2 => turn i hi _ sm NF NT (fun hp => k1 ?_) (fun hp => k2 (f i) ?_)⟩
    · show ((List.range (i + 1)).filter p).map f = _
      rw [List.range_succ, List.filter_append, List.filter_cons, hp]
      simp
    · show ((List.range (i + 1)).filter p).map f = _
      rw [List.range_succ, List.filter_append, List.filter_cons, hp]
      simp
/-- .. over a text's signs -/
theorem lc_strV {x : W} (p : Nat → Bool) (f : Nat → V) (hD : H0 D = none) (hn : x.length ≤ sizeLine)
    (turn : ∀ c ∈ x, ∀ H, Same H0 H → ∀ (NF : Hp → Prop) (NT : Hp → V → Prop),
      (p c = false → ∀ H', Same H H' → NF H') → (p c = true → ∀ H', Same H H' → NT H' (f c)) →
      g (.str ⟨#[c]⟩) (wipe σ vs) H fun σ2 H2 => wipe σ2 vs = wipe σ vs ∧ tt σ2 H2 fun b H3 => if b = true then te σ2 H3 fun y H4 => NT H4 y else NF H3)
    (done : ∀ H, Same H0 H → H D = some (.lst ((x.filter p).map f)) → Qd H) :
    ∃ W : Nat → Nat → Hp → Prop, (∃ m, W 0 m (upd H0 D (.lst []))) ∧ ∀ i m H, W i m H →
      ((Its (tx x)).stop i H ∧ Qd H) ∨ ((Its (tx x)).go i H ∧ ∃ Nx : Hp → Prop, (∀ H', Nx H' → ∃ m', m' < m ∧ W (i + 1) m' H') ∧ ∀ v H', (Its (tx x)).yld i H v H' → g v (wipe σ vs) H' fun σ2 H2 => wipe σ2 vs = wipe σ vs ∧ tt σ2 H2 fun b H3 =>
        if b = true then te σ2 H3 fun y H4 => ∃ acc, H4 D = some (.lst acc) ∧ acc.length < sizeLine ∧ Nx (upd H4 D (.lst (acc ++ [y]))) else Nx H3) := by
  have sz : (tx x).cps.size = x.length := by simp
  refine lc_val (J := Its (tx x)) (n := x.length) (fun i => ((x.take i).filter p).map f) rfl (fun i hi => ?_) hn hD (fun i H sm => ⟨fun hi => ?_, fun hi => ?_⟩) (fun i v H H' hi sm hy => ?_) (fun H sm q => ?_)
  · show (((x.take i).filter p).map f).length ≤ i
    rw [List.length_map]
    exact Nat.le_trans (List.length_filter_le _ _) (by rw [List.length_take]; exact Nat.min_le_left _ _)
  · show i < (tx x).cps.size
    rw [sz]; exact hi
  · show (tx x).cps.size ≤ i
    rw [sz, hi]; exact Nat.le_refl _
  · obtain ⟨rfl, c, hc, rfl⟩ := hy
    have hz : x[i]? = some c := by simpa using hc
    have et : x.take (i + 1) = x.take i ++ [c] := by rw [List.take_add_one, hz]; rfl
    refine ⟨.refl _, fun NF NT k1 k2 => turn c (List.mem_of_getElem? hz) _ sm NF NT (fun hp => k1 ?_) (fun hp => k2 (f c) ?_)⟩
    · show ((x.take (i + 1)).filter p).map f = _
      rw [et, List.filter_append, List.filter_cons, hp]
      simp
    · show ((x.take (i + 1)).filter p).map f = _
      rw [et, List.filter_append, List.filter_cons, hp]
      simp
  · exact done H sm (by rw [List.take_length] at q; exact q)
end
theorem ftrue {α : Type} (l : List α) : l.filter (fun _ => true) = l := List.filter_eq_self.mpr fun _ _ => rfl
/-! ### slices -/
theorem tx_len (w : W) : (tx w).length = w.length := by
  show w.toArray.size = w.length
  simp
theorem cut_hi (w : W) (k : Nat) : cutS (tx w) none (some (k : Int)) = tx (w.take k) := by
  unfold cutS
  rw [HT.sIx_none, HT.sIx_nat, tx_cps, tx_len, Nat.sub_zero, List.drop_zero]
  congr 2
  by_cases h : k ≤ w.length
  · rw [Nat.min_eq_left h]
  · rw [Nat.min_eq_right (by omega), List.take_length, List.take_of_length_le (by omega)]
theorem cut_lo (w : W) (k : Nat) : cutS (tx w) (some (k : Int)) none = tx (w.drop k) := by
  unfold cutS
  rw [HT.sIx_none, HT.sIx_nat, tx_cps, tx_len]
  congr 2
  by_cases h : k ≤ w.length
  · rw [Nat.min_eq_left h]
    exact List.take_of_length_le (by rw [List.length_drop]; exact Nat.le_refl _)
  · rw [Nat.min_eq_right (by omega), List.drop_of_length_le (Nat.le_refl _), List.drop_of_length_le (by omega)]
    simp
theorem cut_but (w : W) : cutS (tx w) none (some (-1)) = tx w.dropLast := by
  unfold cutS
  rw [HT.sIx_none, tx_cps, tx_len, Nat.sub_zero, List.drop_zero]
  have e : HT.sIx w.length w.length (some (-1)) = w.length - 1 := by
    show (if (-1 : Int) < 0 then ((-1 : Int) + (w.length : Int)).toNat else min (-1 : Int).toNat w.length) = _
    rw [if_pos (by decide)]
    omega
  rw [e, List.dropLast_eq_take]
theorem cut_last (w : W) : cutS (tx w) (some (-1)) none = tx (w.drop (w.length - 1)) := by
  unfold cutS
  rw [HT.sIx_none, tx_cps, tx_len]
  have e : HT.sIx w.length 0 (some (-1)) = w.length - 1 := by
    show (if (-1 : Int) < 0 then ((-1 : Int) + (w.length : Int)).toNat else min (-1 : Int).toNat w.length) = _
    rw [if_pos (by decide)]
    omega
  rw [e]
  congr 2
  exact List.take_of_length_le (by rw [List.length_drop]; omega)
theorem cutv_hi (xs : List V) (k : Nat) : cutV xs none (some (k : Int)) = xs.take k := by
  unfold cutV
  rw [HT.sIx_none, HT.sIx_nat, Nat.sub_zero, List.drop_zero]
  by_cases h : k ≤ xs.length
  · rw [Nat.min_eq_left h]
  · rw [Nat.min_eq_right (by omega), List.take_length, List.take_of_length_le (by omega)]
theorem cutv_lo (xs : List V) (k : Nat) : cutV xs (some (k : Int)) none = xs.drop k := by
  unfold cutV
  rw [HT.sIx_none, HT.sIx_nat]
  by_cases h : k ≤ xs.length
  · rw [Nat.min_eq_left h]
    exact List.take_of_length_le (by rw [List.length_drop]; exact Nat.le_refl _)
  · rw [Nat.min_eq_right (by omega), List.drop_of_length_le (Nat.le_refl _), List.drop_of_length_le (by omega)]
    simp
theorem cutv_last (xs : List V) : cutV xs (some (-1)) none = xs.drop (xs.length - 1) := by
  unfold cutV
  rw [HT.sIx_none]
  have e : HT.sIx xs.length 0 (some (-1)) = xs.length - 1 := by
    show (if (-1 : Int) < 0 then ((-1 : Int) + (xs.length : Int)).toNat else min (-1 : Int).toNat xs.length) = _
    rw [if_pos (by decide)]
    omega
  rw [e]
  exact List.take_of_length_le (by rw [List.length_drop]; omega)
theorem add_tx (a b : W) : tx a ++ tx b = tx (a ++ b) := by
  show (⟨a.toArray ++ b.toArray⟩ : Str) = ⟨(a ++ b).toArray⟩
  simp
theorem okW_take {w : W} (h : okW w) (k : Nat) : okW (w.take k) := ⟨by rw [List.length_take]; have := h.1; omega, fun c hc => h.2 c (List.mem_of_mem_take hc)⟩
theorem okW_drop {w : W} (h : okW w) (k : Nat) : okW (w.drop k) := ⟨by rw [List.length_drop]; have := h.1; omega, fun c hc => h.2 c (List.mem_of_mem_drop hc)⟩
theorem okW_but {w : W} (h : okW w) : okW w.dropLast := by rw [List.dropLast_eq_take]; exact okW_take h _
theorem okW_line {w : W} (h : okW w) : (tx w).length ≤ sizeLine := by
  rw [tx_len]
  have := h.1
  exact Nat.le_of_lt (small1000 this)
end Pw
end
section
set_option linter.all false
set_option maxRecDepth 100000
set_option maxHeartbeats 2000000
/-! Sets 1: a set of pairs of texts, searched by its table. -/
namespace Pw
open PySem PySem.Spec PyProof.Rows L2
def keyL (k : Spot) : List Str := [tx k.1, tx k.2]
theorem keyL_inj {a b : Spot} (h : keyL a = keyL b) : a = b := by
  injection h with h1 h2
  injection h2 with h2 _
  exact Prod.ext (tx_inj h1) (tx_inj h2)
theorem keyL_dec (a b : Spot) : decide (keyL a = keyL b) = decide (a = b) := decide_eq_decide.mpr ⟨keyL_inj, fun e => by rw [e]⟩
/-- the tuple at c has k's two texts -/
abbrev IsP (P : Program) (w : World) (h : Heap) (k : Spot) (c : Addr) : Prop := IsTupleKey (PySem.strKind P w) h (keyL k) c
abbrev ph (P : Program) (w : World) (k : Spot) : Int := tupleKeyHash (PySem.strKind P w) (keyL k)
abbrev pr0 (m : Nat) (h : Int) : SetTable.Probe := runAt m (SetTable.bits h % (m + 1)) (SetTable.bits h)
abbrev eR (P : Program) (w : World) (L : List (Spot × Addr)) : List (Int × Value) := L.map fun p => (ph P w p.1, Value.ref p.2)
abbrev eH (P : Program) (w : World) (L : List (Spot × Addr)) : List Int := L.map fun p => ph P w p.1
theorem dm_nth (m : Nat) : ∀ (n : Nat) (p : SetTable.Probe), p.dummy = none → (nth m p n).dummy = none
  | 0, _, h => h
  | n + 1, p, h => dm_nth m n (adv m p) (by unfold adv; split <;> exact h)
section
variable {P : Program} {w : World} {A : Around} {E : Value → Shared → Prop} {s : Shared}
theorem texts_of {k : List Str} {vs : List Value} (h : ItemsAre (PySem.strKind P w) k vs) : ∀ v ∈ vs, ∃ x t, v = Value.str x t := by
  induction h with
  | nil => exact fun v hv => nomatch hv
  | cons h1 _ ih =>
    intro v hv
    rcases List.mem_cons.mp hv with rfl | hv
    · obtain ⟨t, e⟩ := Value.isStrOf_shape h1; exact ⟨_, t, e⟩
    · exact ih v hv
theorem noClass_str (n : Nat) (x : Str) (t : Tok) : ofAClassStatement n (.str x t) = pure false := by cases n <;> rfl
theorem noHash_str (n : Nat) (x : Str) (t : Tok) : hashByValue n (.str x t) = pure false := by cases n <;> rfl
theorem noClass_pair {k : Spot} {b : Addr} {Q : Bool → Shared → Prop} (hk : IsP P w s.heap k b) (h : Q false s) : wpAny (model P w) A (ofAClassStatement 8 (.ref b)) Q E s := by
  have hT := hk.typeIs
  obtain ⟨o, items, n, ho, _, hd, hi⟩ := hk
  unfold ofAClassStatement
  refine wpAny_bind (wpAny_typeOf hT ?_); dsimp only
  simp only [show (("tuple" : String) == "tuple") = true by decide, if_true, Bool.not_true, Bool.false_eq_true, if_false]
  show wpAny (model P w) A (seqItems? (.ref b) >>= _) _ _ s
  refine wpAny_bind (wpAny_seqItems ho hd ?_); dsimp only
  refine wpAny_bind ?_
  show wpAny (model P w) A (forIn items _ _) _ _ s
  rw [← Array.forIn_toList]
  refine wpAny_forIn_list _ (fun rest r s' => r.1 = none ∧ s' = s ∧ ∀ v ∈ rest, ∃ x t, v = Value.str x t) _ ?_ ?_ _ _ ⟨rfl, rfl, texts_of hi⟩
  · rintro v rest r s' ⟨hr, rfl, all⟩
    obtain ⟨x, t, rfl⟩ := all v List.mem_cons_self
    rw [noClass_str]; refine wpAny_bind (wpAny_pure ?_); simp only [Bool.false_eq_true, if_false]
    exact wpAny_pure ⟨rfl, rfl, fun u hu => all u (List.mem_cons_of_mem _ hu)⟩
  · rintro ⟨r1, r2⟩ s' ⟨hr, rfl, _⟩
    simp only at hr; subst hr
    exact wpAny_pure h
/-- its hash is by its texts' own -/
theorem hashBy_pair {k : Spot} {b : Addr} {Q : Bool → Shared → Prop} (hk : IsP P w s.heap k b) (h : ∀ c, Q c s) : wpAny (model P w) A (hashByValue 8 (.ref b)) Q E s := by
  have hT := hk.typeIs
  obtain ⟨o, items, n, ho, _, hd, hi⟩ := hk
  unfold hashByValue
  refine wpAny_bind (wpAny_specialOf hT F.slot_tuple_hash.lookup ?_)
  show wpAny (model P w) A (seqItems? (.ref b) >>= _) _ _ s
  refine wpAny_bind (wpAny_seqItems ho hd ?_); refine wpAny_bind ?_
  show wpAny (model P w) A (forIn items _ _) _ _ s
  rw [← Array.forIn_toList]
  refine wpAny_forIn_list _ (fun rest r s' => r.1 = none ∧ s' = s ∧ ∀ v ∈ rest, ∃ x t, v = Value.str x t) _ ?_ ?_ _ _ ⟨rfl, rfl, texts_of hi⟩
  · rintro v rest r s' ⟨hr, rfl, all⟩
    obtain ⟨x, t, rfl⟩ := all v List.mem_cons_self
    rw [noHash_str]; refine wpAny_bind (wpAny_pure ?_); simp only [Bool.not_false, if_true]
    refine wpAny_pure ?_
    show wpAny (model P w) A (pure false) Q E s'
    exact wpAny_pure (h false)
  · rintro ⟨r1, r2⟩ s' ⟨hr, rfl, _⟩
    simp only at hr; subst hr
    exact wpAny_pure (h true)
theorem unseen_pair {k : Spot} {b : Addr} {Q : Bool → Shared → Prop} (hk : IsP P w s.heap k b) {ys : List Value} (hy : ∀ y ∈ ys, ∃ k' c, y = Value.ref c ∧ IsP P w s.heap k' c) (h : Q false s) :
    wpAny (model P w) A (searchCouldBeSeen (.ref b) ys) Q E s := by
  unfold searchCouldBeSeen
  refine wpAny_bind ?_
  refine wpAny_forIn_list _ (fun rest r s' => r.1 = none ∧ s' = s ∧ ∀ y ∈ rest, ∃ k' c, y = Value.ref c ∧ IsP P w s.heap k' c) _ ?_ ?_ _ _ ⟨rfl, rfl, hy⟩
  · rintro v rest r s' ⟨hr, rfl, all⟩
    obtain ⟨k', c, rfl, hc⟩ := all v List.mem_cons_self
    have more : ∀ y ∈ rest, ∃ k' c, y = Value.ref c ∧ IsP P w s'.heap k' c := fun u hu => all u (List.mem_cons_of_mem _ hu)
    dsimp only
    by_cases hv : (b == c || (carriedByValue (.ref b) && carriedByValue (.ref c))) = true
    · exact wp_if_pos hv (wpAny_pure ⟨rfl, rfl, more⟩)
    · refine wp_if_neg hv (wpAny_bind (wpAny_eqIsQuiet_tuple hk ?_))
      simp only [Bool.not_true, Bool.false_eq_true, if_false]
      refine wpAny_bind (wpAny_eqIsQuiet_tuple hc ?_); simp only [Bool.not_true, Bool.false_eq_true, if_false]
      refine wpAny_bind (noClass_pair hk ?_); simp only [Bool.false_eq_true, if_false]
      refine wpAny_bind (noClass_pair hc ?_); simp only [Bool.false_eq_true, if_false]
      exact wpAny_pure ⟨rfl, rfl, more⟩
  · rintro ⟨r1, r2⟩ s' ⟨hr, rfl, _⟩
    simp only at hr; subst hr
    exact wpAny_pure h
/-- the set at a has just L's pairs -/
structure PR (P : Program) (w : World) (h : Heap) (a : Addr) (L : List (Spot × Addr)) (es : Array (Int × Value)) (ep : Nat) (t : SetTable) : Prop where
  ob : ∃ o, h.get? a = some o ∧ o.ExactSet ∧ o.data = .set es ep t
  rows : es.toList = eR P w L
  tab : TabOk t (eH P w L)
  nd : (L.map (·.1)).Nodup
  its : ∀ p ∈ L, IsP P w h p.1 p.2
  led : w.params.followText "set-order" = true ∨ t.led = true
  room : L.length * 5 < t.mask * 3
  few : L.length < 64
variable {a : Addr} {L : List (Spot × Addr)} {es : Array (Int × Value)} {ep : Nat} {t : SetTable}
theorem eR_len (hr : es.toList = eR P w L) : es.size = L.length := by
  have h := congrArg List.length hr
  rw [Array.length_toList, List.length_map] at h
  exact h
theorem eR_at (hr : es.toList = eR P w L) {i : Nat} {p : Spot × Addr} (h : L[i]? = some p) : es[i]? = some (ph P w p.1, Value.ref p.2) := by
  rw [← Array.getElem?_toList, hr, List.getElem?_map, h]
  rfl
theorem PR.fits {h : Heap} (R : PR P w h a L es ep t) : t.fits es.size = true := by
  have h1 := R.tab.sz
  rw [List.length_map] at h1
  have h2 := eR_len R.rows
  have h3 := R.room
  unfold SetTable.fits SetTable.fill
  rw [R.tab.dm, Bool.and_eq_true, beq_iff_eq, decide_eq_true_eq]
  refine ⟨h1.trans h2.symm, ?_⟩
  show t.place.size + 0 ≤ t.mask
  omega
theorem noWay (h : MaskOk t.mask) : ¬ t.gaveWay = true := by
  unfold SetTable.gaveWay
  rw [mask_odd h]; decide
/-- the search from the c-th slot of the way on -/
theorem pr_seek (R : PR P w s.heap a L es ep t) {x : Addr} {k : Spot} (hx : IsP P w s.heap k x) (hu : A.units < cLine) {K : Nat} (hKf : K < 10 * SetTable.turns t.mask)
    (hK : way t.mask (ph P w k) K ∉ t.place.toList) (hKb : ∀ c, c < K → way t.mask (ph P w k) c ∈ t.place.toList) {Q : SetFound → Shared → Prop}
    (hin : k ∈ L.map (·.1) → Q (.there none) s) (hout : k ∉ L.map (·.1) → Q (.free (way t.mask (ph P w k) K) false) s) :
    ∀ (f c : Nat) (stand : Option SetTable.Probe), stand.getD (t.probeStart (ph P w k)) = nth t.mask (pr0 t.mask (ph P w k)) c → c ≤ K → K - c < f →
      (∀ (i : Nat) p, L[i]? = some p → p.1 = k → ∃ c', c ≤ c' ∧ c' < K ∧ t.place.toList[i]? = some (way t.mask (ph P w k) c')) →
      wpAny (model P w) A (setSearchFrom a (.ref x) (ph P w k) true f stand) Q E s :=
  by
  intro f
  induction f with
  | zero => exact fun c stand _ _ hf _ => absurd hf (Nat.not_lt_zero _)
  | succ f ih =>
    intro c stand hst hc hf hre
    obtain ⟨o, ho, hex, hd⟩ := R.ob
    rw [setSearchFrom_succ]
    refine wpAny_bind (wpAny_setState_of ho hd R.fits ?_); dsimp only
    refine wp_if_neg (noWay R.tab.mok) ?_
    (try refine wpAny_bind (wpAny_pure ?_))
    have hnd : (nth t.mask (pr0 t.mask (ph P w k)) c).dummy = none := dm_nth _ c _ rfl
    have sh : ∀ q, nth t.mask (nth t.mask (pr0 t.mask (ph P w k)) c) q = nth t.mask (pr0 t.mask (ph P w k)) (c + q) := fun q => (nth_add t.mask c _ q).symm
    have e1 : ∀ q, (nth t.mask (nth t.mask (pr0 t.mask (ph P w k)) c) q).j = way t.mask (ph P w k) (c + q) := fun q => congrArg SetTable.Probe.j (sh q)
    have a1 : ∀ q, q < K - c → (nth t.mask (nth t.mask (pr0 t.mask (ph P w k)) c) q).j ∈ t.place.toList := (fun q hq => by rw [e1]; exact hKb (c + q) (by omega))
    have a3 : (nth t.mask (nth t.mask (pr0 t.mask (ph P w k)) c) (K - c)).j ∉ t.place.toList := (by rw [e1, show c + (K - c) = K by omega]; exact hK)
    have a2 : K - c < 10 * SetTable.turns t.mask := by omega
    have spec := go_spec t R.tab.ris R.tab.dm (fun i => (es[i]?.map (·.1)).getD 0) (ph P w k) (10 * SetTable.turns t.mask) (K - c) _ hnd a2 a1 a3
    have hashAt : ∀ (i : Nat) p, L[i]? = some p → (fun i => (es[i]?.map (·.1)).getD 0) i = ph P w p.1 := fun i p hp => by
      show (es[i]?.map (·.1)).getD 0 = _
      rw [eR_at R.rows hp, Option.map_some, Option.getD_some]
    rcases spec with ⟨q, i, hq, hi, hh, hno, hpr⟩ | ⟨hno, hpr⟩
    · have hpr2 : t.probe (fun i => (es[i]?.map (·.1)).getD 0) (ph P w k) (stand.getD (t.probeStart (ph P w k))) = some (.candidate (way t.mask (ph P w k) (c + q)) i (nth t.mask (pr0 t.mask (ph P w k)) (c + (q + 1)))) := by
        rw [hst, ← e1, ← sh]; exact hpr
      rw [hpr2]; dsimp only
      rw [e1] at hi
      have hil : i < L.length := by
        have h1 : i < t.place.toList.length := (List.getElem?_eq_some_iff.mp hi).1
        have h2 := R.tab.sz
        rw [List.length_map] at h2
        rw [Array.length_toList] at h1; omega
      have hp : L[i]? = some L[i] := List.getElem?_eq_getElem hil
      generalize hpe : L[i] = p at hp
      have hmem : p ∈ L := List.mem_of_getElem? hp
      have hpt := R.its p hmem
      have rest : wpAny (model P w) A (searchRest a (.ref x) (ph P w k) true f es t (way t.mask (ph P w k) (c + q)) i (nth t.mask (pr0 t.mask (ph P w k)) (c + (q + 1)))) Q E s := by
        unfold searchRest
        rw [eR_at R.rows hp]; dsimp only
        refine wpAny_bind (wpAny_holding (wpAny_eqBool_tuple hu hpt hx ?_))
        rw [keyL_dec]
        refine wpAny_bind (wpAny_setState_of ho hd R.fits ?_); dsimp only
        by_cases hkk : p.1 = k
        · refine wp_if_pos (by simp [hkk]) ?_
          exact wpAny_pure (hin (List.mem_map.mpr ⟨p, hmem, hkk⟩))
        · refine wp_if_neg (by simp [hkk]) ?_
          (try refine wpAny_bind (wpAny_pure ?_))
          rw [sameMem]; dsimp only
          have hsl : t.slot (way t.mask (ph P w k) (c + q)) = .live i := slot_live R.tab.ris hi
          simp only [if_true, hsl, eR_at R.rows hp]
          refine wpAny_bind (wpAny_isSame_ref_self (wpAny_bind (wpAny_pure ?_))); simp only [if_true]
          refine wp_if_neg (by simp [hkk]) ?_
          refine ih (c + (q + 1)) _ Option.getD_some (by omega) (by omega) fun i0 p0 h0 hk0 => ?_
          obtain ⟨c', a1, a2, a3⟩ := hre i0 p0 h0 hk0
          refine ⟨c', ?_, a2, a3⟩
          rcases Nat.lt_trichotomy c' (c + q) with z | z | z
          · refine absurd ((hashAt i0 p0 h0).trans (congrArg (ph P w) hk0)) (hno (c' - c) i0 (by omega) ?_)
            rw [e1, show c + (c' - c) = c' by omega]; exact a3
          · rw [z] at a3
            have s0 := slot_live R.tab.ris a3
            rw [hsl] at s0
            injection s0 with s0
            rw [← s0, hp] at h0
            exact absurd ((congrArg Prod.fst (Option.some.inj h0)).trans hk0) hkk
          · omega
      by_cases hl : t.led = true
      · refine wp_if_neg (by simp [hl]) ?_
        (try refine wpAny_bind (wpAny_pure ?_))
        exact rest
      · refine wp_if_pos (by simp [hl]) ?_
        refine wpAny_bind (unseen_pair hx (fun y hy => ?_) ?_)
        · obtain ⟨e, he, ee⟩ := List.mem_map.mp hy
          have he1 : e ∈ es ∧ e.1 = ph P w k := by simpa using he
          have he2 : e ∈ es.toList := by simpa using he1.1
          rw [R.rows] at he2
          obtain ⟨p2, hp2, e2⟩ := List.mem_map.mp he2
          exact ⟨p2.1, p2.2, by rw [← ee, ← e2], R.its p2 hp2⟩
        · refine wp_if_neg (by decide) ?_
          (try refine wpAny_bind (wpAny_pure ?_))
          exact rest
    · have hpr2 : t.probe (fun i => (es[i]?.map (·.1)).getD 0) (ph P w k) (stand.getD (t.probeStart (ph P w k))) = some (.empty (way t.mask (ph P w k) K) none) := by
        have e2 : way t.mask (ph P w k) K = (nth t.mask (nth t.mask (pr0 t.mask (ph P w k)) c) (K - c)).j := by rw [e1, show c + (K - c) = K by omega]
        rw [hst, e2]; exact hpr
      rw [hpr2]; dsimp only
      refine wpAny_pure (hout fun hm => ?_)
      obtain ⟨p0, h0, hk0⟩ := List.mem_map.mp hm
      obtain ⟨i0, hi0, e0⟩ := List.getElem_of_mem h0
      have h00 : L[i0]? = some p0 := by rw [List.getElem?_eq_getElem hi0, e0]
      obtain ⟨c', a1, a2, a3⟩ := hre i0 p0 h00 hk0
      refine hno (c' - c) i0 (by omega) ?_ ((hashAt i0 p0 h00).trans (congrArg (ph P w) hk0))
      rw [e1, show c + (c' - c) = c' by omega]; exact a3
theorem pr_search (R : PR P w s.heap a L es ep t) {x : Addr} {k : Spot} (hx : IsP P w s.heap k x) (hu : A.units < cLine) {Q : SetFound → Shared → Prop}
    (hin : k ∈ L.map (·.1) → Q (.there none) s)
    (hout : ∀ K, k ∉ L.map (·.1) → way t.mask (ph P w k) K ∉ t.place.toList → (∀ c, c < K → way t.mask (ph P w k) c ∈ t.place.toList) → Q (.free (way t.mask (ph P w k) K) false) s) :
    wpAny (model P w) A (setSearch a (.ref x) (ph P w k) true) Q E s := by
  have hroom := R.room
  obtain ⟨K, hKf, hK, hKb⟩ := R.tab.first (by rw [List.length_map]; omega) (ph P w k)
  have hbig : 10 * SetTable.turns t.mask ≤ 1420 := by
    unfold SetTable.turns
    rcases R.tab.mok with e | e | e <;> omega
  unfold setSearch
  refine pr_seek R hx hu hKf hK hKb hin (fun hn => hout K hn hK hKb) 100000 0 none rfl (Nat.zero_le _) (by omega) fun i p hp hk => ?_
  have hi : (eH P w L)[i]? = some (ph P w k) := by rw [List.getElem?_map, hp, ← hk]; rfl
  have hil : i < t.place.toList.length := by
    have h1 : i < L.length := (List.getElem?_eq_some_iff.mp hp).1
    have h2 := R.tab.sz
    rw [List.length_map] at h2
    rw [Array.length_toList]; omega
  obtain ⟨c, hc, e⟩ := R.tab.before hK hi (List.getElem?_eq_getElem hil)
  exact ⟨c, Nat.zero_le _, hc, by rw [List.getElem?_eq_getElem hil, e]⟩
/-- a pair of texts isn't the set -/
theorem isP_but {h h' : Heap} {k : Spot} {a b : Addr} {o : Obj} {es : Array (Int × Value)} {ep : Nat} {t : SetTable} (hb : IsP P w h k b) (ho : h.get? a = some o) (hd : o.data = .set es ep t) (hs : Heap.SameBut a h h') : IsP P w h' k b := by
  obtain ⟨o', items, n, ho', hc, hd', hi⟩ := hb
  refine ⟨o', items, n, (hs.2 b fun e => ?_).trans ho', hc, hd', hi⟩
  rw [e, ho] at ho'
  rw [← Option.some.inj ho', hd] at hd'
  exact nomatch hd'
theorem order_eR (es : Array (Int × Value)) (order : Array Nat) (hr : es.toList = eR P w L) (hp : order.toList.Perm (List.range L.length)) :
    ∃ L2, (order.filterMap (es[·]?)).toList = eR P w L2 ∧ L2.Perm L ∧ eH P w L2 = order.toList.map fun i => (es.map (·.1)).getD i 0 := by
  have hsz := eR_len hr
  have key : ∀ l : List Nat, (∀ i ∈ l, i < L.length) → l.filterMap (fun i => es[i]?) = eR P w (l.filterMap fun i => L[i]?) ∧ eH P w (l.filterMap fun i => L[i]?) = l.map fun i => (es.map (·.1)).getD i 0 := by
    intro l
    induction l with
    | nil => exact fun _ => ⟨rfl, rfl⟩
    | cons i l ih =>
      intro hl
      have hi := hl i List.mem_cons_self
      obtain ⟨e1, e2⟩ := ih fun j hj => hl j (List.mem_cons_of_mem _ hj)
      have hq := eR_at hr (List.getElem?_eq_getElem hi)
      have e4 : (es.map (·.1)).getD i 0 = ph P w (L[i]).1 := by
        rw [Array.getD_eq_getD_getElem?, Array.getElem?_map, hq, Option.map_some, Option.getD_some]
      rw [List.filterMap_cons_some hq, List.filterMap_cons_some (List.getElem?_eq_getElem hi), e1]
      unfold eR eH
      rw [List.map_cons, List.map_cons, List.map_cons, e4, ← e2]
      exact ⟨rfl, rfl⟩
  obtain ⟨e1, e3⟩ := key order.toList fun i hi => List.mem_range.mp (hp.mem_iff.mp hi)
  refine ⟨_, by simpa using e1, ?_, e3⟩
  have full : ∀ n, n ≤ L.length → (List.range n).filterMap (fun i => L[i]?) = L.take n := by
    intro n
    induction n with
    | zero => exact fun _ => rfl
    | succ n ih =>
      intro hn
      rw [List.range_succ, List.filterMap_append, ih (Nat.le_of_lt hn), List.take_succ, List.getElem?_eq_getElem hn, List.filterMap_cons_some (List.getElem?_eq_getElem hn)]
      rfl
  have h1 := hp.filterMap fun i => L[i]?
  rw [full L.length (Nat.le_refl _), List.take_length] at h1
  exact h1
/-- laid anew in a larger table -/
theorem pr_relay {o : Obj} (ho : s.heap.get? a = some o) (hex : o.ExactSet) (hd : o.data = .set es ep t) (hrows : es.toList = eR P w L) (hsz : t.place.size = es.size) (hdm : t.dummies = #[]) (hfl : es.size ≤ t.mask)
    (nd : (L.map (·.1)).Nodup) (its : ∀ p ∈ L, IsP P w s.heap p.1 p.2) (ld : w.params.followText "set-order" = true ∨ t.led = true) (few : L.length < 64) {wanted M : Nat}
    (hw : SetTable.sizeAbove wanted - 1 = M) (hM : MaskOk M) (hw2 : SetTable.sizeAbove wanted ≤ 128) (hn : L.length * 5 < M * 3) {Q : Unit → Shared → Prop}
    (hQ : ∀ h' L' es' ep' t', Heap.SameBut a s.heap h' → PR P w h' a L' es' ep' t' → L'.Perm L → Q () { s with heap := h' }) : wpAny (model P w) A (setRelay a wanted) Q E s := by
  have hsl := eR_len hrows
  have hfits : t.fits es.size = true := by
    unfold SetTable.fits SetTable.fill
    rw [hdm, Bool.and_eq_true, beq_iff_eq, decide_eq_true_eq]
    refine ⟨hsz, ?_⟩
    show t.place.size + 0 ≤ t.mask
    omega
  obtain ⟨t', order, e, hp, T, em, el, ep', ed⟩ := relaid_ok t (hs := es.map (·.1)) (wanted := wanted) hw hM (by rw [Array.size_map, hsl]; omega)
  rw [Array.size_map, hsl] at hp
  obtain ⟨L2, r1, r2, r3⟩ := order_eR es order hrows hp
  rw [← r3] at T
  have hs2 := (eR_len r1).trans (r2.length_eq.trans hsl.symm)
  rw [setRelay_eq]
  refine wpAny_bind (wpAny_setState_of ho hd hfits ?_); dsimp only
  refine wp_if_neg (by rw [sizeLine_eq]; omega) ?_
  (try refine wpAny_bind (wpAny_pure ?_))
  rw [e]; dsimp only
  refine wpAny_bind ?_
  refine wp_if_neg (by rw [hs2]; simp) ?_
  (try refine wpAny_bind (wpAny_pure ?_))
  refine wpAny_pure ?_
  dsimp only
  refine wpAny_storeSet_of ho hd ?_ (by rw [hs2, hsl, sizeLine_eq]; omega)
  have sb : Heap.SameBut a s.heap (s.heap.update a (Obj.putSet (order.filterMap (es[·]?)) t')) := Heap.SameBut.update ..
  refine hQ _ L2 (order.filterMap (es[·]?)) (ep + 1) t' sb ⟨⟨_, store_at ho hd, ⟨hex.1, hex.2.1, hex.2.2⟩, rfl⟩, r1, T, (r2.map (·.1)).nodup_iff.mpr nd, fun p hpm => isP_but (its p (r2.mem_iff.mp hpm)) ho hd sb, by rw [el]; exact ld, ?_, by rw [r2.length_eq]; exact few⟩ r2
  rw [r2.length_eq, em]; exact hn
/-- one more -/
theorem pr_add (R : PR P w s.heap a L es ep t) {x : Addr} {k : Spot} (hx : IsP P w s.heap k x) (hu : A.units < cLine) (hfew : L.length + 1 < 64) {Q : Bool → Shared → Prop}
    (hQ : ∀ b h' L' es' ep' t', Heap.SameBut a s.heap h' → PR P w h' a L' es' ep' t' → (k ∈ L.map (·.1) → L' = L) → (k ∉ L.map (·.1) → L'.Perm ((k, x) :: L)) → Q b { s with heap := h' }) :
    wpAny (model P w) A (setAddHashed a (.ref x) (ph P w k)) Q E s := by
  obtain ⟨o, ho, hex, hd⟩ := R.ob
  have hsl := eR_len R.rows
  have hroom := R.room
  unfold setAddHashed
  refine wpAny_holding ?_
  rw [show (100000 : Nat) = 99999 + 1 from rfl, setAddHashedIn_succ]
  refine wpAny_bind (wpAny_setState_of ho hd R.fits ?_); dsimp only
  refine wp_if_neg (by simp [byScan, Value.scannable]) ?_
  (try refine wpAny_bind (wpAny_pure ?_))
  refine wpAny_bind (pr_search R hx hu (fun hm => ?_) fun K hm hK hb => ?_)
  · exact wpAny_pure (hQ false s.heap L es ep t (Heap.SameBut.refl a s.heap) R (fun _ => rfl) fun z => absurd hm z)
  · dsimp only
    refine wpAny_bind (wpAny_setState_of ho hd R.fits ?_); dsimp only
    obtain ⟨q1, q2, q3, q4, q5, q6, q7, q8, q9⟩ := R.tab.put hK hb
    generalize hpt : t.put (way t.mask (ph P w k) K) = pt at q1 q3 q4 q5 q6 q7 q8 q9 ⊢
    obtain ⟨t1, p⟩ := pt
    dsimp only at q1 q3 q4 q5 q6 q7 q8 q9 ⊢
    subst q1
    have hin : (SetTable.insertAt es (SetTable.below t.place (way t.mask (ph P w k) K)) (ph P w k, Value.ref x)).toList = eR P w (L.take (SetTable.below t.place (way t.mask (ph P w k) K)) ++ (k, x) :: L.drop (SetTable.below t.place (way t.mask (ph P w k) K))) := by
      rw [SetTable.toList_insertAt, R.rows]
      unfold eR
      rw [List.map_append, List.map_cons, List.map_take, List.map_drop]
    generalize hpp : SetTable.below t.place (way t.mask (ph P w k) K) = p at q2 q3 hin ⊢
    have pm : (L.take p ++ (k, x) :: L.drop p).Perm ((k, x) :: L) := by
      have h := List.perm_middle (a := (k, x)) (l₁ := L.take p) (l₂ := L.drop p)
      rw [List.take_append_drop] at h; exact h
    have hlen : (L.take p ++ (k, x) :: L.drop p).length = L.length + 1 := pm.length_eq
    have hhs : eH P w (L.take p ++ (k, x) :: L.drop p) = (eH P w L).take p ++ ph P w k :: (eH P w L).drop p := by
      unfold eH
      rw [List.map_append, List.map_cons, List.map_take, List.map_drop]
    rw [← hhs] at q3
    have nd1 : ((L.take p ++ (k, x) :: L.drop p).map (·.1)).Nodup := (pm.map (·.1)).nodup_iff.mpr (List.nodup_cons.mpr ⟨hm, R.nd⟩)
    have hes := (eR_len hin).trans hlen
    generalize SetTable.insertAt es p (ph P w k, Value.ref x) = es1 at hin hes ⊢
    generalize L.take p ++ (k, x) :: L.drop p = L1 at pm hlen q3 nd1 hin
    -- what the table has, whatever it says of its plainness
    have go : ∀ t2 : SetTable, t2.place = t1.place → t2.dummies = t1.dummies → t2.mask = t1.mask → t2.led = t1.led → t2.finger = t1.finger → t2.moves = t1.moves → t2.fill = t1.fill → wpAny (model P w) A (do
        storeSet a es1 t2
        if (!false && t2.tooFull) = true then do
          setRelay a (SetTable.grown (es.size + 1))
          pure true
        else pure true) Q E s := fun t2 w1 w2 w3 w4 w5 w6 w7 => by
      have T2 : TabOk t2 (eH P w L1) := ⟨by rw [w1]; exact q3.ris, by rw [w2]; exact q3.dm, by rw [w1]; exact q3.sz, by rw [w3]; exact q3.mok, by rw [w1, w3]; exact q3.bd, by rw [w1, w3]; exact q3.reach⟩
      refine wpAny_bind (wpAny_storeSet_of ho hd ?_ (by rw [hes, sizeLine_eq]; omega))
      have sb : Heap.SameBut a s.heap (s.heap.update a (Obj.putSet es1 t2)) := Heap.SameBut.update ..
      have ho1 := store_at (es' := es1) (t' := t2) ho hd
      generalize s.heap.update a (Obj.putSet es1 t2) = h1 at sb ho1 ⊢
      have its1 : ∀ p ∈ L1, IsP P w h1 p.1 p.2 := fun p hp => by
        rcases List.mem_cons.mp (pm.mem_iff.mp hp) with e | hp
        · rw [e]; exact isP_but hx ho hd sb
        · exact isP_but (R.its p hp) ho hd sb
      have ld1 : w.params.followText "set-order" = true ∨ t2.led = true := by rw [w4, q5]; exact R.led
      have hfl : t2.tooFull = decide ((L.length + 1) * 5 ≥ t.mask * 3) := by
        unfold SetTable.tooFull
        rw [w7, q9, w3, q4, List.length_map]
      by_cases hf : t2.tooFull = true
      · refine wp_if_pos (by simp [hf]) (wpAny_bind ?_)
        have hfull : (L.length + 1) * 5 ≥ t.mask * 3 := of_decide_eq_true (hfl.symm.trans hf)
        rw [hsl]
        have hsz1 : t2.place.size = es1.size := by
          have h := q3.sz
          rw [List.length_map, hlen] at h
          rw [w1, h, hes]
        have two : (t.mask = 7 ∧ L.length = 4) ∨ (t.mask = 31 ∧ L.length = 18) := by
          rcases R.tab.mok with e | e | e <;> rw [e] at hroom hfull
          · exact .inl ⟨e, by omega⟩
          · exact .inr ⟨e, by omega⟩
          · omega
        have lay : ∀ M, SetTable.sizeAbove (SetTable.grown (L.length + 1)) - 1 = M → MaskOk M → SetTable.sizeAbove (SetTable.grown (L.length + 1)) ≤ 128 → (L.length + 1) * 5 < M * 3 →
            wpAny (model P w) A (setRelay a (SetTable.grown (L.length + 1))) (fun _ s' => wpAny (model P w) A (pure true) Q E s') E { s with heap := h1 } := fun M m1 m2 m3 m4 => by
          refine pr_relay (s := { s with heap := h1 }) ho1 ⟨hex.1, hex.2.1, hex.2.2⟩ rfl hin hsz1 T2.dm (by rw [hes, w3, q4]; rcases two with ⟨e, e2⟩ | ⟨e, e2⟩ <;> omega) nd1 its1 ld1 (by rw [hlen]; exact hfew) m1 m2 m3 (by rw [hlen]; exact m4) ?_
          intro h2 L2 es2 ep2 t3 sb2 R2 pm2
          exact wpAny_pure (hQ true h2 L2 es2 ep2 t3 (sb.trans sb2) R2 (fun z => absurd z hm) fun _ => pm2.trans pm)
        rcases two with ⟨_, e2⟩ | ⟨_, e2⟩
        · exact lay 31 (by rw [e2, size_20]) (.inr (.inl rfl)) (by rw [e2, size_20]; decide) (by omega)
        · exact lay 127 (by rw [e2, size_76]) (.inr (.inr rfl)) (by rw [e2, size_76]; decide) (by omega)
      · refine wp_if_neg (by simp [hf]) (wpAny_pure (hQ true h1 L1 es1 (ep + 1) t2 sb ⟨⟨_, ho1, ⟨hex.1, hex.2.1, hex.2.2⟩, rfl⟩, hin, T2, nd1, its1, ld1, ?_, by rw [hlen]; exact hfew⟩ (fun z => absurd z hm) fun _ => pm))
        rw [hfl, decide_eq_true_eq] at hf
        rw [hlen, w3, q4]; omega
    by_cases hp1 : t1.plain = true
    · refine wp_if_pos hp1 ?_
      refine wpAny_bind (hashBy_pair hx fun c => ?_)
      cases c with
      | true => simp only [if_true]; exact go t1 rfl rfl rfl rfl rfl rfl rfl
      | false => simp only [Bool.false_eq_true, if_false]; exact go { t1 with plain := false } rfl rfl rfl rfl rfl rfl rfl
    · refine wp_if_neg hp1 ?_
      refine wpAny_bind (wpAny_pure ?_)
      simp only [if_true]
      exact go t1 rfl rfl rfl rfl rfl rfl rfl
end
end Pw
end
section
set_option linter.all false
set_option maxRecDepth 100000
set_option maxHeartbeats 4000000
/-! Sets 2: sorted(set(..)) of texts, of pairs of texts. -/
namespace Pw
open PySem PySem.Spec PyProof.Rows L2
open PySem.Froz (SD sObj TxOk add_x addTx tailTx add_ok)
abbrev fresh0 (w : World) : Obj := { cls := .type "set", dict := none, data := .set #[] 0 (.fresh 0 0 (!w.params.followText "set-order")) }
theorem led0 (w : World) : w.params.followText "set-order" = true ∨ (SetTable.fresh 0 0 (!w.params.followText "set-order")).led = true := by
  show _ ∨ (!w.params.followText "set-order") = true
  cases w.params.followText "set-order"
  · exact .inr rfl
  · exact .inl rfl
/-- a kind of things that a set may hold: what it keeps of them, how one more is put in -/
structure SK (P : Program) (w : World) {κ : Type} [LT κ] [STO κ] [DecidableEq κ] [DecidableLT κ] (A : Enc κ) where
  is : Heap → κ → Value → Prop
  keep : ∀ {h h' : Heap} {k : κ} {v : Value}, is h k v → (∀ c o, h.get? c = some o → h'.get? c = some o) → is h' k v
  rd : ∀ {h : Heap} {k : κ} {v : Value}, is h k v → Reads h v (A.e k) []
  Iv : Heap → Addr → List (κ × Value) → Prop
  move : ∀ {h h' : Heap} {a : Addr} {L : List (κ × Value)}, Iv h a L → (∀ o, h.get? a = some o → h'.get? a = some o) → (∀ p ∈ L, is h' p.1 p.2) → Iv h' a L
  its : ∀ {h : Heap} {a : Addr} {L : List (κ × Value)}, Iv h a L → ∀ p ∈ L, is h p.1 p.2
  nd : ∀ {h : Heap} {a : Addr} {L : List (κ × Value)}, Iv h a L → (L.map (·.1)).Nodup
  fresh : ∀ {h : Heap} {a : Addr}, h.get? a = some (fresh0 w) → Iv h a []
  add : ∀ {B : Around} {E : Value → Shared → Prop} {s : Shared} {a : Addr} {L : List (κ × Value)} {k : κ} {v : Value} {Q : Bool → Shared → Prop}, Iv s.heap a L → is s.heap k v → B.units < cLine → L.length + 1 < 64 →
    (∀ b h' L' tk, Heap.SameBut a s.heap h' → s.toks ≤ tk → Iv h' a L' → (k ∈ L.map (·.1) → L' = L) → (k ∉ L.map (·.1) → L'.Perm ((k, v) :: L)) → Q b { s with heap := h', toks := tk }) → wpAny (model P w) B (setAdd a v) Q E s
  tab : ∀ {h : Heap} {a : Addr} {L : List (κ × Value)}, Iv h a L → ∃ es ep t, SetAt h a es ep t ∧ (es.toList.map (·.2)).Perm (L.map (·.2)) ∧ t.fits es.size = true ∧ es.size < scanBound ∧ Ris t.place.toList ∧ (w.params.followText "set-order" = true ∨ t.led = true)
/-! ### pairs -/
theorem reads_pair {P : Program} {w : World} {h : Heap} {k : Spot} {c : Addr} (x : IsP P w h k c) : Reads h (.ref c) (eSpot.e k) [] := by
  obtain ⟨o, items, n, ho, hc, hd, hi⟩ := x
  refine .tuple ho hc hd ?_
  generalize hl : items.toList = vs at hi
  have hi' : ItemsAre (PySem.strKind P w) [tx k.1, tx k.2] vs := hi
  cases hi' with
  | cons a b =>
    cases b with
    | cons b c =>
      cases c
      obtain ⟨t, rfl⟩ := Value.isStrOf_shape a
      obtain ⟨u, rfl⟩ := Value.isStrOf_shape b
      exact .cons (as := []) (bs := []) (.str _ _) (.cons (as := []) (bs := []) (.str _ _) .nil)
def skSpot (P : Program) (w : World) : SK P w eSpot where
  is := fun h k v => ∃ c, v = .ref c ∧ IsP P w h k c
  keep := fun ⟨c, e, o, items, n, ho, r⟩ hk => ⟨c, e, o, items, n, hk c o ho, r⟩
  rd := fun ⟨c, e, x⟩ => by rw [e]; exact reads_pair x
  Iv := fun h a L => ∃ L0 es ep t, L = L0.map (fun p => (p.1, Value.ref p.2)) ∧ PR P w h a L0 es ep t
  move := by
    rintro h h' a L ⟨L0, es, ep, t, rfl, R⟩ ha ht
    obtain ⟨o, ho, r⟩ := R.ob
    refine ⟨L0, es, ep, t, rfl, ⟨o, ha o ho, r⟩, R.rows, R.tab, R.nd, fun p hp => ?_, R.led, R.room, R.few⟩
    obtain ⟨c, e, x⟩ := ht _ (List.mem_map.mpr ⟨p, hp, rfl⟩)
    injection e with e
    subst e; exact x
  its := by
    rintro h a L ⟨L0, es, ep, t, rfl, R⟩ p hp
    obtain ⟨q, hq, rfl⟩ := List.mem_map.mp hp
    exact ⟨q.2, rfl, R.its q hq⟩
  nd := by
    rintro h a L ⟨L0, es, ep, t, rfl, R⟩
    rw [List.map_map]; exact R.nd
  fresh := fun {h a} ho => ⟨[], #[], 0, .fresh 0 0 (!w.params.followText "set-order"), rfl, ⟨_, ho, ⟨rfl, rfl, rfl⟩, rfl⟩, rfl, ⟨List.Pairwise.nil, rfl, rfl, .inl rfl, (fun x hx => nomatch hx), (fun i h j hi => by simp at hi)⟩, List.nodup_nil, (fun p hp => nomatch hp), led0 w, by show 0 * 5 < 7 * 3; decide, by show 0 < 64; decide⟩
  add := by
    rintro B E s a L k v Q ⟨L0, es, ep, t, rfl, R⟩ ⟨x, rfl, hx⟩ hu hf hQ
    have e0 : (L0.map fun p : Spot × Addr => (p.1, Value.ref p.2)).map (·.1) = L0.map (·.1) := by rw [List.map_map]; rfl
    rw [List.length_map] at hf
    unfold setAdd
    refine wpAny_holding (wpAny_bind (wpAny_pyHash_tuple hu hx ?_))
    refine pr_add (s := { s with toks := s.toks + ((keyL k).length + 1) }) R hx hu hf fun b h' L' es' ep' t' sb R' c1 c2 => hQ b h' (L'.map fun p => (p.1, Value.ref p.2)) _ sb (Nat.le_add_right _ _) ⟨L', es', ep', t', rfl, R'⟩ (fun m => ?_) fun m => ?_
    · rw [c1 (by rw [← e0]; exact m)]
    · exact (c2 (by rw [← e0]; exact m)).map _
  tab := by
    rintro h a L ⟨L0, es, ep, t, rfl, R⟩
    obtain ⟨o, ho, hx, hd⟩ := R.ob
    have hf := R.few
    have hl := eR_len R.rows
    refine ⟨es, ep, t, ⟨o, ho, hx.1, hd⟩, ?_, R.fits, by unfold scanBound; omega, R.tab.ris, R.led⟩
    rw [R.rows, List.map_map, List.map_map]
    exact .refl _
/-! ### texts -/
theorem tail_more {ep : Nat} {es1 : Array (Int × Value)} {t2 : SetTable} {wd : Bool} (r : Ris t2.place.toList) : (tailTx ep es1 t2 wd).1.toList.Perm es1.toList ∧ Ris (tailTx ep es1 t2 wd).2.2.place.toList ∧ (tailTx ep es1 t2 wd).2.2.led = t2.led := by
  unfold tailTx
  split
  · exact ⟨relayAll_perm t2 es1 _, relayAll_ris t2 es1 _, relayAll_led t2 es1 _⟩
  · exact ⟨.refl _, r, rfl⟩
theorem add_more {h : Int} {v : Value} {D : SD} (r : Ris D.2.2.place.toList) : (addTx h v D).1.toList.Perm ((h, v) :: D.1.toList) ∧ Ris (addTx h v D).2.2.place.toList ∧ (addTx h v D).2.2.led = D.2.2.led := by
  obtain ⟨es, ep, t⟩ := D
  have p := layNew_perm t es h v
  rw [Array.toList_push] at p
  have r1 := layNew_ris t es h v r
  have l1 := layNew_led t es h v
  unfold addTx
  generalize layNew t es h v = Z at p r1 l1 ⊢
  obtain ⟨es1, t1, wd, gave⟩ := Z
  dsimp only at p r1 l1 ⊢
  obtain ⟨a1, a2, a3⟩ := tail_more (ep := ep) (es1 := es1) (t2 := if t1.plain = true then { t1 with plain := false } else t1) (wd := wd) (by split <;> exact r1)
  refine ⟨a1.trans (p.trans (List.perm_append_singleton _ _)), a2, a3.trans ?_⟩
  split <;> exact l1
/-- put in again -/
theorem add_again {P : Program} {w : World} {A : Around} {E : Value → Shared → Prop} {s : Shared} {a : Addr} {T : String} {D : SD} {l : List Str} {k : Str} {u : Tok} {Q : Bool → Shared → Prop} (ho : s.heap.get? a = some (sObj T D)) (F : TxOk P w D l) (hk : k ∈ l) (hb : l.length < scanBound)
    (h : Q false s) : wpAny (model P w) A (setAddHashed a (.str k u) (hashStr w k)) Q E s := by
  obtain ⟨es, ep, t⟩ := D
  have hd : (sObj T (es, ep, t)).data = .set es ep t := rfl
  have hel : ElemsOf (PySem.strKind P w) es.toList := F.el
  have hsz : es.size = l.length := F.sz
  unfold setAddHashed setAddHashedIn
  refine wpAny_holding (wpAny_bind (wpAny_setState_of ho hd F.fit ?_)); dsimp only
  rw [byScan_of rfl (by omega) hel]; simp only [↓reduceIte]
  unfold setAddByScan
  refine wpAny_bind ?_
  refine wpAny_bind (wpAny_rule ?_)
  refine wpAny_bind (wpAny_setScan_of (knd := PySem.strKind P w) (k := k) (PySem.Froz.is_str k u) ho hd F.fit hel ?_)
  cases hr : List.findIdx? (fun e => (PySem.strKind P w).is k e.2) es.toList with
  | none =>
    obtain ⟨e, he, q⟩ := (F.mem k).mp hk
    have c := List.findIdx?_eq_none_iff.mp hr e he
    rw [q] at c
    cases c
  | some j => exact wpAny_pure (wpAny_pure h)
theorem tx_mem {w : W} {l : List W} : tx w ∈ l.map tx ↔ w ∈ l := ⟨fun h => by
  obtain ⟨x, hx, e⟩ := List.mem_map.mp h
  rw [← tx_inj e]; exact hx, fun h => List.mem_map.mpr ⟨w, h, rfl⟩⟩
def skText (P : Program) (w : World) : SK P w eStr where
  is := fun _ k v => ∃ t, v = .str (tx k) t
  keep := fun x _ => x
  rd := fun ⟨t, e⟩ => by rw [e]; exact .str _ _
  Iv := fun h a L => ∃ D, h.get? a = some (sObj "set" D) ∧ TxOk P w D ((L.map (·.1)).map tx) ∧ (D.1.toList.map (·.2)).Perm (L.map (·.2)) ∧ Ris D.2.2.place.toList ∧ (w.params.followText "set-order" = true ∨ D.2.2.led = true) ∧
    (L.map (·.1)).Nodup ∧ (∀ p ∈ L, ∃ t, p.2 = .str (tx p.1) t) ∧ L.length < 64
  move := by
    rintro h h' a L ⟨D, ho, r⟩ ha _
    exact ⟨D, ha _ ho, r⟩
  its := by
    rintro h a L ⟨D, ho, F, p, r, l, nd, it, f⟩
    exact it
  nd := by
    rintro h a L ⟨D, ho, F, p, r, l, nd, it, f⟩
    exact nd
  fresh := fun ho => ⟨(#[], 0, .fresh 0 0 (!w.params.followText "set-order")), ho, .nil rfl, .nil, List.Pairwise.nil, led0 w, List.nodup_nil, (fun p hp => nomatch hp), by show 0 < 64; decide⟩
  add := by
    rintro B E s a L k v Q ⟨D, ho, F, p, r, l, nd, it, f⟩ ⟨t, rfl⟩ hu hf hQ
    have hll : ((L.map (·.1)).map tx).length = L.length := by rw [List.length_map, List.length_map]
    unfold setAdd
    refine wpAny_holding (wpAny_bind ((PySem.strKind P w).pyHash (PySem.Froz.is_str (tx k) t) ?_))
    by_cases hk : k ∈ L.map (·.1)
    · exact add_again (s := { s with toks := s.toks + 1 }) ho F (tx_mem.mpr hk) (by rw [hll]; unfold scanBound; omega) (hQ false s.heap L _ (Heap.SameBut.refl a s.heap) (Nat.le_succ _) ⟨D, ho, F, p, r, l, nd, it, f⟩ (fun _ => rfl) fun z => absurd hk z)
    · obtain ⟨m1, m2, m3⟩ := add_more (h := hashStr w (tx k)) (v := .str (tx k) t) (D := D) r
      refine add_x (s := { s with toks := s.toks + 1 }) ho F (fun z => hk (tx_mem.mp z)) (by rw [hll]; unfold scanBound; omega) (hQ true _ ((k, .str (tx k) t) :: L) _ (Heap.SameBut.update ..) (Nat.le_succ _) ?_ (fun z => absurd z hk) fun _ => .refl _)
      refine ⟨_, PySem.Froz.get_upd _ ho rfl, add_ok t F, (m1.map Prod.snd).trans (List.Perm.cons (Value.str (tx k) t) p), m2, l.imp id fun z => by rw [m3]; exact z, List.nodup_cons.mpr ⟨hk, nd⟩, fun q hq => ?_, hf⟩
      rcases List.mem_cons.mp hq with rfl | hq
      · exact ⟨t, rfl⟩
      · exact it q hq
  tab := by
    rintro h a L ⟨D, ho, F, p, r, l, nd, it, f⟩
    have hll : D.1.size = ((L.map (·.1)).map tx).length := F.sz
    rw [List.length_map, List.length_map] at hll
    exact ⟨D.1, D.2.1, D.2.2, ⟨_, ho, rfl, rfl⟩, p, F.fit, by unfold scanBound; omega, r, l⟩
/-! ### the loop of set(list) -/
section
variable {P : Program} {w : World} {κ : Type} [LT κ] [STO κ] [DecidableEq κ] [DecidableLT κ] {EA : Enc κ} (K : SK P w EA)
/-- what the first i of ks have left -/
structure Had (ks : List (κ × Value)) (i : Nat) (L : List (κ × Value)) : Prop where
  sub : ∀ p ∈ L, p ∈ ks.take i
  all : ∀ p ∈ ks.take i, p.1 ∈ L.map (·.1)
  len : L.length ≤ i
theorem Had.zero (ks : List (κ × Value)) : Had ks 0 [] := ⟨(fun p h => nomatch h), (fun p h => by simp at h), Nat.le_refl _⟩
theorem take_one {α : Type} {l : List α} {i : Nat} {x : α} (h : l[i]? = some x) : l.take (i + 1) = l.take i ++ [x] := by
  rw [List.take_add_one, h]; rfl
theorem Had.next {ks L L' : List (κ × Value)} {i : Nat} {x : κ × Value} (g : Had ks i L) (h : ks[i]? = some x) (c1 : x.1 ∈ L.map (·.1) → L' = L) (c2 : x.1 ∉ L.map (·.1) → L'.Perm (x :: L)) : Had ks (i + 1) L' := by
  have e := take_one h
  by_cases m : x.1 ∈ L.map (·.1)
  · rw [c1 m]
    refine ⟨fun p hp => by rw [e]; exact List.mem_append_left _ (g.sub p hp), fun p hp => ?_, Nat.le_succ_of_le g.len⟩
    rw [e] at hp
    rcases List.mem_append.mp hp with z | z
    · exact g.all p z
    · rw [List.mem_singleton.mp z]; exact m
  · have pm := c2 m
    refine ⟨fun p hp => ?_, fun p hp => ?_, by rw [pm.length_eq]; exact Nat.succ_le_succ g.len⟩
    · rw [e]
      rcases List.mem_cons.mp (pm.mem_iff.mp hp) with z | z
      · rw [z]; exact List.mem_append_right _ (List.mem_singleton.mpr rfl)
      · exact List.mem_append_left _ (g.sub p z)
    · rw [(pm.map (·.1)).mem_iff, List.map_cons]
      rw [e] at hp
      rcases List.mem_append.mp hp with z | z
      · exact List.mem_cons_of_mem _ (g.all p z)
      · rw [List.mem_singleton.mp z]; exact List.mem_cons_self
theorem set_loop {A : Around} {I : Addr} {fp wr : List Addr} {G : Array GenState → Array GenState → Prop} {n : Nat} {Pv : Nat → Value → Prop} {St : Nat → Shared → Prop} {R : Result → Shared → Prop}
    (W : WalksS P w A.in1 I fp wr G n Pv St) (S : Addr) (hSf : S ∉ fp) (ks : List (κ × Value)) (hn : n = ks.length) (hfew : ks.length < 64) (hval : ∀ i v, Pv i v → ∃ p, ks[i]? = some p ∧ v = p.2)
    (h0 : Heap) (hk : ∀ p ∈ ks, K.is h0 p.1 p.2) (hS0 : h0.get? S = none) (hw0 : ∀ b ∈ wr, h0.get? b = none) (hu : A.in1.units < cLine) :
    ∀ (k i : Nat) (s : Shared), n - i = k → i ≤ n → St i s → (∀ b o, h0.get? b = some o → s.heap.get? b = some o) → (∃ L, K.Iv s.heap S L ∧ Had ks i L) →
      (∀ s' L, Moved (S :: wr) G s s' → K.Iv s'.heap S L → Had ks n L → (∀ b o, h0.get? b = some o → s'.heap.get? b = some o) → R (.ok (.ret .none)) s') →
      codeAny (model P w) A (.builtin "set.update.loop" ⟨[.ref S, .ref I], []⟩) R s := by
  have hSw : S ∉ wr := fun h => hSf (W.sub _ h)
  have keepM : ∀ {s s' : Shared}, Moved wr G s s' → (∀ b o, h0.get? b = some o → s.heap.get? b = some o) → ∀ b o, h0.get? b = some o → s'.heap.get? b = some o := fun hm hkp b o e =>
    hm.heap b o (fun hb => by rw [hw0 b hb] at e; cases e) (hkp b o e)
  intro k
  induction k with
  | zero =>
    intro i s hk' hi hst hkp ⟨L, hS, g⟩ hR
    have hin : i = n := by omega
    subst hin
    refine codeAny_builtin F.entry_set_update_loop ?_
    rw [Around.under_plainId F.plain_set_update_loop _]
    show wpAny (model P w) A.in1 (pyNext (.ref I) >>= _) _ _ s
    refine wpAny_bind (W.done s _ _ hst fun s' hm => ?_)
    show wpAny (model P w) A.in1 (ret Value.none) _ _ s'
    have hkp' := keepM hm hkp
    exact wpAny_pure (hR s' L (hm.mono fun b hb => List.mem_cons_of_mem _ hb) (K.move hS (fun o e => hm.heap S o hSw e) fun p hp => K.keep (hk p (List.mem_of_mem_take (g.sub p hp))) hkp') g hkp')
  | succ k ih =>
    intro i s hk' hi hst hkp ⟨L, hS, g⟩ hR
    have hlt : i < n := by omega
    refine codeAny_builtin F.entry_set_update_loop ?_
    rw [Around.under_plainId F.plain_set_update_loop _]
    show wpAny (model P w) A.in1 (pyNext (.ref I) >>= _) _ _ s
    refine wpAny_bind (W.item i s _ _ hlt hst fun v s' hP hst' hm => ?_)
    obtain ⟨p, hp, rfl⟩ := hval i v hP
    have hkp' := keepM hm hkp
    have hS' := K.move hS (fun o e => hm.heap S o hSw e) fun q hq => K.keep (hk q (List.mem_of_mem_take (g.sub q hq))) hkp'
    show wpAny (model P w) A.in1 (holding [p.2] (setAdd S p.2) >>= _) _ _ s'
    refine wpAny_bind (wpAny_holding ?_)
    refine K.add hS' (K.keep (hk p (List.mem_of_getElem? hp)) hkp') hu (by have := g.len; omega) fun b h' L' tk sb ht R' c1 c2 => ?_
    have keep2 : ∀ b o, h0.get? b = some o → h'.get? b = some o := fun b o e => (sb.2 b (fun z => by rw [z, hS0] at e; cases e)).trans (hkp' b o e)
    refine wpAny_pure ⟨plainId_quiet F.plain_set_update_loop _, ih (i + 1) _ (by omega) hlt (W.frame _ s' _ _ hst' ht fun b hb o e => ?_) keep2 ⟨L', R', g.next hp c1 c2⟩ fun s'' L2 hm'' hS'' g'' kp'' => ?_⟩
    · rw [sb.2 b (fun h : b = S => hSf (by rw [← h]; exact hb))]; exact e
    · refine hR s'' L2 (Moved.trans W.gtrans ((hm.mono fun b hb => List.mem_cons_of_mem _ hb).then_heap ht fun b o hb e => ?_) hm'') hS'' g'' kp''
      rw [sb.2 b (fun h : b = S => hb (by rw [h]; exact List.mem_cons_self))]; exact e
end
end Pw
end
section
set_option linter.all false
set_option maxRecDepth 100000
set_option maxHeartbeats 4000000
/-! Sets 3: the call set(list), sorted of it, the rule. -/
namespace Pw
open PySem PySem.Spec PyProof.Rows L2
section
variable {P : Program} {w : World} {κ : Type} [LT κ] [STO κ] [DecidableEq κ] [DecidableLT κ] {EA : Enc κ} (K : SK P w EA) {A : Around} {E : Value → Shared → Prop} {s : Shared}
theorem call_setK {l : Addr} {items : Array Value} (ks : List (κ × Value)) {Q : Value → Shared → Prop} (hh : A.handled = none) (hl : s.heap.IsList l items) (hit : items.toList = ks.map (·.2))
    (hk : ∀ p ∈ ks, K.is s.heap p.1 p.2) (hfew : ks.length < 64) (hu : A.units + 3 < cLine)
    (h : ∀ (h' : Heap) (tk : Nat) L, K.Iv h' s.heap.objs.size L → Had ks ks.length L → (∀ b o, s.heap.get? b = some o → h'.get? b = some o) → Q (.ref s.heap.objs.size) { s with heap := h', toks := tk }) :
    wpAny (model P w) A (call (.type "set") [.ref l]) Q E s := by
  have hisz : items.size = ks.length := by
    have q := congrArg List.length hit
    rw [Array.length_toList, List.length_map] at q
    exact q
  obtain ⟨c, tl, hmro⟩ := F.called_set.mro
  have hmade := F.called_set.made
  have hsub := F.called_set.sub
  refine wpAny_call (codeAny_of_tree ?_)
  show wpAny (model P w) _ (callAny (.type "set") _) _ _ _
  refine wpAny_pure ⟨Code.quiet_builtin _ (by decide +kernel), codeAny_builtin F.entry_type_call ?_⟩
  rw [Around.under_plain (weight_type_call_type "set" [.ref l] []) rfl]
  have h1 := F.called_set.notType
  have h2 := F.called_set.canCreate
  have hct := F.typeCall_set_1 (.ref l)
  repeat (any_goals (first | assumption | wp_step))
  refine codeAny_mono (code_set_led1 (.ref l) (E := E) (Q₁ := fun obj s₁ => obj = .ref s.heap.objs.size ∧ s₁ = { s with heap := s.heap.push (fresh0 w) }) ⟨rfl, rfl⟩) fun r s₁ hr => ?_
  cases r with
  | error e => exact hr
  | ok fl =>
    cases fl with
    | ret obj =>
      obtain ⟨rfl, rfl⟩ := hr
      have hS : (s.heap.push (fresh0 w)).get? s.heap.objs.size = some (fresh0 w) := Heap.get?_push_size _ rfl
      have hT : Shared.TypeIs { s with heap := s.heap.push (fresh0 w) } (.ref s.heap.objs.size) "set" := ⟨_, hS, rfl⟩
      have hli := F.called_set.init.lookup
      have hbi := F.called_set.init.bind (.ref s.heap.objs.size)
      repeat (any_goals (first | assumption | wp_step))
      refine codeAny_mono (codeAny_call_builtin (R := wants (fun r s₂ => r = .none ∧ ∃ h' tk L, s₂ = { s with heap := h', toks := tk } ∧ K.Iv h' s.heap.objs.size L ∧ Had ks ks.length L ∧
          (∀ b o, s.heap.get? b = some o → h'.get? b = some o)) E) F.called_set.init.plain F.entry_set_init (check_set_init_1 hT ?_)) fun r₂ s₂ hr₂ => ?_
      · obtain ⟨ol, hol, hcl, nl, hdl⟩ := hl
        obtain ⟨ocls, odict, odata, oslots⟩ := ol
        simp only at hcl hdl
        subst hcl; subst hdl
        have hol' : (s.heap.push (fresh0 w)).get? l = some { cls := .type "list", dict := odict, data := .seq items nl, slots := oslots } := Heap.get?_push_of_some _ hol
        have hsls := F.sub_list_set
        have hslf := F.sub_list_frozenset
        have hne : (Value.type "list" == Value.type "dict") = false := by decide
        have hl1 : (s.heap.push (fresh0 w)).IsList l items := ⟨_, hol', rfl, nl, rfl⟩
        unfold Builtin.«set.__init__» noKeywords Builtin.Frozenset.updateFrom
        generalize hPI : pyIter = PI
        wp_walk
        subst hPI
        refine wpAny_pyIter_list hl1 ?_
        refine wpAny_bind (wpAny_runValue ?_)
        have hlS : l < s.heap.objs.size := Heap.lt_size hol
        have hh3 : A.in1.in1.in1.handled = none := by simp [hh]
        have hz1 : (s.heap.push (fresh0 w)).objs.size = s.heap.objs.size + 1 := Heap.size_push ..
        have hneI : l ≠ (s.heap.push (fresh0 w)).objs.size := by rw [hz1]; exact Nat.ne_of_lt (Nat.lt_succ_of_lt hlS)
        have hSf : s.heap.objs.size ∉ [(s.heap.push (fresh0 w)).objs.size, l] := by
          rw [hz1]; simp only [List.mem_cons, List.mem_singleton, List.not_mem_nil, or_false, not_or]
          exact ⟨Nat.ne_of_lt (Nat.lt_succ_self _), Nat.ne_of_gt hlS⟩
        have hval : ∀ (i : Nat) (v : Value), items[i]? = some v → ∃ p, ks[i]? = some p ∧ v = p.2 := fun i v hv => by
          have q : items.toList[i]? = some v := by rw [Array.getElem?_toList]; exact hv
          rw [hit, List.getElem?_map] at q
          cases hq : ks[i]? with
          | none => rw [hq] at q; cases q
          | some p =>
            rw [hq] at q
            exact ⟨p, rfl, (Option.some.inj q).symm⟩
        have none_of : ∀ b, s.heap.objs.size ≤ b → s.heap.get? b = none := fun b hb => by
          cases q : s.heap.get? b with
          | none => rfl
          | some o => exact absurd (Heap.lt_size q) (Nat.not_lt_of_le hb)
        refine set_loop K ((Walks.list hh3 _ l hneI items).toS) s.heap.objs.size hSf ks hisz hfew hval s.heap hk (none_of _ (Nat.le_refl _)) (fun b hb => none_of b (by
            rw [List.mem_singleton.mp hb, hz1]; exact Nat.le_succ _)) hu (items.size - 0) 0 _ (by omega) (Nat.zero_le _)
          ⟨⟨_, Heap.get?_push_size _ rfl, rfl, rfl⟩, (hl1.push _)⟩ (fun b o e => Heap.get?_push_of_some _ (Heap.get?_push_of_some _ e)) ⟨[], K.fresh (Heap.get?_push_of_some _ hS), Had.zero ks⟩ fun s' L hm hS' g' hkp => ?_
        obtain ⟨h', g2, d', tk', os'⟩ := s'
        have eg : g2 = s.gens := hm.gens
        have ed : d' = s.drawn := hm.drawn
        have eo : os' = s.os := hm.os
        subst eg; subst ed; subst eo
        show wpAny (model P w) _ _ _ _ _
        refine wpAny_pure ?_
        show wpAny (model P w) _ (ret Value.none) _ _ _
        rw [hisz] at g'
        exact wpAny_pure ⟨rfl, h', tk', L, rfl, hS', g', hkp⟩
      · cases r₂ with
        | error e => exact hr₂
        | ok fl₂ =>
          cases fl₂ with
          | ret r =>
            obtain ⟨rfl, h', tk, L, rfl, hS', g', hk'⟩ := hr₂
            repeat (any_goals (first | assumption | wp_step))
            exact h _ _ _ hS' g' hk'
          | _ => exact hr₂.elim
    | _ => exact hr.elim
end
end Pw
end
section
set_option linter.all false
set_option maxRecDepth 100000
set_option maxHeartbeats 4000000
/-! Sets 4: sorted of a set, the rule. -/
namespace Pw
open PySem PySem.Spec PyProof.Rows L2
section
variable {P : Program} {w : World} {κ : Type} [LT κ] [STO κ] [DecidableEq κ] [DecidableLT κ] {EA : Enc κ} (K : SK P w EA) {A : Around} {E : Value → Shared → Prop} {s : Shared}
theorem perm_lift {α β : Type} (f : α → β) {vs ws : List β} (p : vs.Perm ws) : ∀ {L : List α}, ws = L.map f → ∃ L1 : List α, L1.Perm L ∧ vs = L1.map f := by
  induction p with
  | nil =>
    intro L e
    cases L with
    | nil => exact ⟨[], .refl _, rfl⟩
    | cons x L => cases e
  | cons x _ ih =>
    intro L e
    cases L with
    | nil => cases e
    | cons y L =>
      rw [List.map_cons] at e
      injection e with e1 e2
      obtain ⟨L1, q1, q2⟩ := ih e2
      exact ⟨y :: L1, q1.cons y, by rw [List.map_cons, e1, q2]⟩
  | swap x y l =>
    intro L e
    match L, e with
    | a :: b :: L, e =>
      simp only [List.map_cons, List.cons.injEq] at e
      exact ⟨b :: a :: L, .swap _ _ _, by simp [e.1, e.2.1, e.2.2]⟩
  | trans _ _ ih1 ih2 =>
    intro L e
    obtain ⟨L1, q1, q2⟩ := ih2 e
    obtain ⟨L2, q3, q4⟩ := ih1 q2
    exact ⟨L2, q3.trans q1, q4⟩
/-- sorted of the set -/
theorem sorted_setK {a : Addr} {L : List (κ × Value)} {R : Value → κ → Prop} {Q : Value → Shared → Prop} (hv : K.Iv s.heap a L) (hh : A.handled = none) (hu : A.units + 2 + EA.dep < cLine) (hf : L.length < 64) (hs : ∀ bs : List κ, PySem.W.Sortable (bs.map EA.e)) (hr : ∀ p ∈ L, R p.2 p.1)
    (hQ : ∀ s' p (out : List Value) (c : Nat) (M : List κ), (∀ b o, s.heap.get? b = some o → s'.heap.get? b = some o) → s'.gens = s.gens → s'.os = s.os → s.heap.objs.size ≤ p →
      s'.heap.get? p = some (seqObj "list" out.toArray c) → M.Perm (L.map (·.1)) → PySem.W.EachIs R out (M.mergeSort (PySem.W.dataLe false EA.e)) → out.length = L.length → Q (.ref p) s') :
    wpAny (model P w) A (call (.builtin "sorted") [.ref a]) Q E s := by
  obtain ⟨es, ep, t, ha, pm0, hfit, hb, ris, led⟩ := K.tab hv
  refine Calls.call_function_entry kind_sorted plain_sorted entry_sorted (args_sorted1 _) ?_
  unfold Builtin.«sorted»
  refine wpAny_bind (m := checkCount "sorted" 1 1 _) (wpAny_pure ?_)
  refine wpAny_bind (collect_set (A := A.in1) hh ha hfit hb ris led fun s1 vs k1 hz g1 o1 pm => ?_)
  obtain ⟨L1, pL, ev⟩ := perm_lift (fun p : κ × Value => p.2) (pm.trans pm0) (L := L) rfl
  have hvl : vs.length = L.length := by rw [ev, List.length_map, pL.length_eq]
  refine wpAny_bind (wpAny_newList ?_ (by rw [sizeLine_eq]; omega))
  have hoL : (s1.heap.push (seqObj "list" vs.toArray 0)).get? s1.heap.objs.size = some (seqObj "list" vs.toArray 0) := Heap.get?_push_size _ rfl
  have each : ∀ (S : Value → κ → Prop) (l : List (κ × Value)), (∀ p ∈ l, S p.2 p.1) → PySem.W.EachIs S (l.map (·.2)) (l.map (·.1)) := by
    intro S l
    induction l with
    | nil => exact fun _ => .nil
    | cons p l ih => exact fun h => .cons (h p List.mem_cons_self) (ih fun q hq => h q (List.mem_cons_of_mem _ hq))
  have hK : ∀ p ∈ L1, K.is (s1.heap.push (seqObj "list" vs.toArray 0)) p.1 p.2 := fun p hp => K.keep (K.its hv p (pL.mem_iff.mp hp)) fun b u e => Heap.get?_push_of_some _ (k1 b u e)
  have e1 : PySem.W.EachIs R vs (L1.map (·.1)) := by
    rw [ev]; exact each R L1 fun p hp => hr p (pL.mem_iff.mp hp)
  have e2 : ∀ (h0 : Heap) (a : Addr), (∀ p ∈ L1, K.is h0 p.1 p.2) → PySem.W.EachIs (fun v b => ∃ as, Reads h0 v (EA.e b) as ∧ a ∉ as) vs (L1.map (·.1)) := fun h0 a hK => by
    rw [ev]; exact each _ L1 fun p hp => ⟨[], K.rd (hK p hp), List.not_mem_nil⟩
  refine wpAny_bind (wpAny_holding (PySem.W.list_sort_data (s := { s1 with heap := s1.heap.push (seqObj "list" vs.toArray 0) }) (A := A.in1) (R := R) (enc := EA.e) (bs := L1.map (·.1)) hoL
    e1 (e2 _ _ hK) (PySem.W.AllAlike.of EA.ali) (hs _) (by rw [List.length_map, pL.length_eq, sizeLine_eq]; omega)
    (fun b _ => by
      have h0 := EA.dle b
      have h1 : A.in1.units = A.units + 1 := rfl
      omega) fun out ho eo => ?_))
  obtain ⟨c, hc⟩ := sortedHeap_at (vs := vs) (out := out.toArray) hoL
  refine wpAny_pure ⟨_, rfl, hQ _ s1.heap.objs.size out c (L1.map (·.1)) (fun b u e => ?_) g1 o1 hz hc (pL.map _) eo (by rw [ho, List.length_map, pL.length_eq])⟩
  have q := k1 b u e
  have hlt := Heap.lt_size q
  show (sortedHeap (s1.heap.push (seqObj "list" vs.toArray 0)) s1.heap.objs.size vs out.toArray).get? b = some u
  rw [sortedHeap_old (Nat.ne_of_lt hlt) (by rw [size_push']; exact Nat.lt_succ_of_lt hlt)]
  exact Heap.get?_push_of_some _ q
end
end Pw
end
section
set_option linter.all false
set_option maxRecDepth 100000
set_option maxHeartbeats 2000000
/-! Rules 2: sorted of lists and of sets of data. -/
namespace Pw
open PySem PySem.Spec PyProof.Rows L2
section
variable {α : Type} [LT α] [STO α] [DecidableEq α] [DecidableLT α] {A : Enc α}
/-- lists of such data can be sorted by the model's table -/
def Sb (A : Enc α) : Prop := ∀ bs : List α, PySem.W.Sortable (bs.map A.e)
theorem sb_list : Sb (eList A) := fun bs => .others fun b => ⟨(fun z => nomatch z), (fun xs z => nomatch z)⟩
theorem dataLe_leB : PySem.W.dataLe false A.e = leB := by
  funext p q
  show (!PySem.W.dataLt (A.e q) (A.e p)) = leB p q
  rw [A.lt]; rfl
theorem each_of {G : Hp} : ∀ {l : List α} {xs : List V} {us : List Value}, Vals xs us → Ats G A xs l → PySem.W.EachIs (fun v b => ∃ y, RelV y v ∧ At G A y b) us l
  | [], [], us, r, h => by cases r; exact .nil
  | [], x :: xs, us, r, h => by have := h.len; cases this
  | b :: l, [], us, r, h => by have := h.len; cases this
  | b :: l, x :: xs, us, r, h => by
    obtain ⟨h1, h2⟩ := h
    cases r with
    | cons r1 r2 =>
      cases h1 with
      | cons a c => exact .cons ⟨x, r1, a, h2 b List.mem_cons_self⟩ (each_of r2 ⟨c, fun y hy => h2 y (List.mem_cons_of_mem _ hy)⟩)
theorem of_each {G : Hp} {out : List Value} {m : List α} (h : PySem.W.EachIs (fun v b => ∃ y, RelV y v ∧ At G A y b) out m) : ∃ ys, Vals ys out ∧ Ats G A ys m := by
  induction h with
  | nil => exact ⟨[], .nil, .nil⟩
  | cons a _ ih =>
    obtain ⟨y, h1, h2⟩ := a
    obtain ⟨ys, h3, h4⟩ := ih
    exact ⟨y :: ys, .cons h1 h3, .cons h2 h4⟩
end
theorem sb_str : Sb eStr := fun bs => .others fun b => ⟨(fun z => nomatch z), (fun xs z => nomatch z)⟩
theorem sb_nat : Sb eNat := fun bs => .others fun b => ⟨(fun z => nomatch z), (fun xs z => nomatch z)⟩
theorem sb_spot : Sb eSpot := fun bs => .tuples fun b => ⟨_, _, rfl⟩
section
variable {α : Type} [LT α] [STO α] [DecidableEq α] [DecidableLT α] {A : Enc α} {X : Cx}
/-- sorted of a list of data -/
def rSortA (A : Enc α) : List V → Hp → VK → Prop := fun vs H Q => ∃ S v l, vs = [v] ∧ At (Hd S H) (eList A) v l ∧ Own S H ∧ ∀ p xs, H p = none → At (Hd S (upd H p (.lst xs))) (eList A) (.ref p) (srt l) → Q (.ref p) (upd H p (.lst xs))
theorem cr_sortA (hs : Sb A) (hd : A.dep ≤ 60 := by decide) (hu : X.A.units + 65 < cLine) : CallR X (.builtin "sorted") (rSortA A) := by
  intro pins s σ H vs us Q I r h
  obtain ⟨S, v, l, rfl, hv, w, q⟩ := h
  obtain ⟨a, xs, rfl, ha, hx⟩ := hv.list
  rw [Vals.ref1 r]
  obtain ⟨its, rv, pl, hz⟩ := I.list (.of (Hd_some ha).2)
  have hl : l.length = its.length := hx.len.symm.trans rv.length
  refine PySem.W.sorted_data (bs := l) (enc := A.e) (R := fun v b => ∃ y, RelV y v ∧ At (Hd S H) A y b) pl.isList (each_of rv hx) ((each_of rv hx).mono fun v b ⟨y, ry, hy⟩ => Dp.reads I (A.e b) y v (hy.dp hd_to) ry) (PySem.W.AllAlike.of A.ali) (hs l)
    (by rw [← hx.len]; exact hz) (fun b _ => by have := A.dle b; omega) fun out ho eo => ?_
  rw [dataLe_leB] at eo
  obtain ⟨ys, vy, ay⟩ := of_each eo
  obtain ⟨c, hc⟩ := sortedAll_at s.heap its out.toArray
  have hn : H (s.heap.objs.size + 1) = none := I.hok.fresh (Nat.le_succ _)
  exact ⟨.ref _, upd H _ (.lst ys), I.laid (t' := s.toks) (fun _ _ => sortedAll_old) (Nat.le_succ _) ⟨by rw [vy.length, ho, hl, ← rv.length]; exact hz, out, c, vy, hc⟩, rfl, q _ ys hn (at_new w hn ay)⟩
end
/-! ### sorted(set(..)) -/
/-- what the walk's values are in the set's kind -/
def SkIn {α : Type} [LT α] [STO α] [DecidableEq α] [DecidableLT α] {A : Enc α} (X : Cx) (K : SK X.prog X.w A) : Prop :=
  ∀ {pins : List (Addr × Obj)} {σ : L2.St} {H G : Hp} {s : Shared} {y : V} {v : Value} {k : α}, Inv X pins σ H s → Same G H → At G A y k → RelV y v → K.is s.heap k v
theorem in_text {X : Cx} : SkIn X (skText X.prog X.w) := fun I g h r => by
  rw [h.str] at r
  obtain ⟨t, rfl⟩ := r
  exact ⟨t, rfl⟩
theorem in_spot {X : Cx} : SkIn X (skSpot X.prog X.w) := fun {pins σ H G s y v k} I g h r => by
  obtain ⟨t, rfl, ht, _⟩ := h.spot
  cases r
  obtain ⟨its, r, ⟨o, ho, hc, n, hd⟩, _⟩ := I.tuple (.of (g _ _ ht))
  refine ⟨t, rfl, o, its.toArray, n, ho, hc, hd, ?_⟩
  cases r with
  | cons r1 r =>
    cases r with
    | cons r2 r =>
      cases r
      obtain ⟨t1, rfl⟩ := r1
      obtain ⟨t2, rfl⟩ := r2
      exact .cons (strKind_is _ _ _ _) (.cons (strKind_is _ _ _ _) .nil)
section
variable {α : Type} [LT α] [STO α] [DecidableEq α] [DecidableLT α] {A : Enc α} {X : Cx}
def tSortSet (A : Enc α) (ta : TE) : TE := fun σ H Q => ta σ H fun x H1 => ∃ S l, At (Hd S H1) (eList A) x l ∧ Own S H1 ∧ l.length < 64 ∧ ∀ p xs M, H1 p = none → Up M → (∀ x, x ∈ M ↔ x ∈ l) → At (Hd S (upd H1 p (.lst xs))) (eList A) (.ref p) M → Q (.ref p) (upd H1 p (.lst xs))
theorem pe_sortSet {a : Expr} {ta : TE} {p p2 q pos : Pos} (K : SK X.prog X.w A) (hi : SkIn X K) (hs : Sb A) (hc : X.calm = true) (hu : X.A.units + 65 < cLine) (hg : Gl X "sorted") (hm : X.mg "sorted" = none) (hg2 : Gl X "set") (hm2 : X.mg "set" = none) (ha : PE X a ta) (hd : A.dep ≤ 60 := by decide)
    (na : starEach [a] X.env = (false, eval a X.env) :: starEach [] X.env := by rfl) (hb : bootBuiltins "sorted" = some (.builtin "sorted") := by decide +kernel) : PE X (.Call (.Name "sorted" p) [.Call (.Name "set" p2) [a] [] q] [] pos) (tSortSet A ta) := by
  refine ⟨fun pins s σ H Q I h => ?_⟩
  refine Call_ (ld_blt I hg hm hb ?_)
  refine PyProof.Rows.callWith_builtin1 (PyProof.Rows.args_cons ?_ rfl) rfl rfl
  refine Call_ (ld_blt I hg2 hm2 PyProof.Rows.boot_set ?_)
  refine PyProof.Rows.callWith_type1 (PyProof.Rows.args_cons (thn (ha.run pins s σ H _ I h) fun v s1 ⟨x, H1, I1, r1, q1⟩ => PyProof.Rows.args_nil ?_) na) na rfl
  obtain ⟨S, l, hv, w, hf, q⟩ := q1
  obtain ⟨b, xs, rfl, hb2, hx⟩ := hv.list
  cases r1
  obtain ⟨its, rv, pl, hz⟩ := I1.list (.of (Hd_some hb2).2)
  have hl : l.length = its.length := hx.len.symm.trans rv.length
  have zk : (l.zip its).map Prod.snd = its := List.map_snd_zip (Nat.le_of_eq hl.symm)
  have zk1 : (l.zip its).map Prod.fst = l := List.map_fst_zip (Nat.le_of_eq hl)
  have pr : ∀ p ∈ l.zip its, ∃ y, RelV y p.2 ∧ At (Hd S H1) A y p.1 := by
    have e := each_of rv hx
    clear zk zk1 hl pl hz rv hx hf q hv hb2
    generalize its = us at e
    induction e with
    | nil => exact fun p hp => nomatch hp
    | cons a _ ih =>
      intro p hp
      rw [List.zip_cons_cons] at hp
      rcases List.mem_cons.mp hp with rfl | hp
      · exact a
      · exact ih p hp
  have zl : (l.zip its).length = l.length := by rw [List.length_zip]; omega
  refine call_setK K (l.zip its) (I1.ok.hd hc) pl.isList (by simpa using zk.symm) (fun p hp => by
    obtain ⟨y, ry, hy⟩ := pr p hp
    exact hi I1 hd_to hy ry) (by omega) (by omega) fun h' tk L iv had kp => PyProof.Rows.args_nil ?_
  rw [zl] at had
  have hL : ∀ p ∈ L, p ∈ l.zip its := fun p hp => List.mem_of_mem_take (had.sub p hp)
  refine sorted_setK K (s := { s1 with heap := h', toks := tk }) (R := fun v b => ∃ y, RelV y v ∧ At (Hd S H1) A y b) iv (I1.ok.hd hc) (by omega) (by have := had.len; omega) hs (fun p hp => pr p (hL p hp)) fun s' p out c M k g o hp hg pm ev el => ?_
  rw [dataLe_leB] at ev
  obtain ⟨ys, vy, ay⟩ := of_each ev
  have hp1 : s1.heap.objs.size ≤ p := by
    refine Nat.le_trans ?_ hp
    obtain ⟨es, ep, t, ⟨o, ho, _⟩, _⟩ := K.tab iv
    exact Nat.le_of_lt (Heap.lt_size ho)
  have hn : H1 p = none := I1.hok.fresh hp1
  have k2 : ∀ b o, s1.heap.get? b = some o → s'.heap.get? b = some o := fun b o e => k b o (kp b o e)
  have hys : ys.length ≤ sizeLine := by rw [vy.length, el, sizeLine_eq]; have := had.len; omega
  have J : Inv X pins σ (upd H1 p (.lst ys)) { s1 with heap := s'.heap, gens := s'.gens, drawn := s'.drawn, toks := s'.toks } :=
    I1.call (ch := []) (Un.laid k2 hp1 hn) (I1.hok.laid k2 hp1 ⟨hys, out, c, vy, hg⟩) (by rw [g]; exact I1.bare) (fun _ z => nomatch z)
  have e : s' = { s1 with heap := s'.heap, gens := s'.gens, drawn := s'.drawn, toks := s'.toks } := by
    cases s'
    cases s1
    cases o
    rfl
  rw [e]
  have nd : M.Nodup := pm.nodup_iff.mpr (K.nd iv)
  refine ⟨.ref p, _, J, rfl, q p ys (srt M) hn (srt_up nd) (fun x => ?_) (at_new w hn ay)⟩
  rw [mem_srt, pm.mem_iff]
  constructor
  · intro hm
    obtain ⟨z, hz, rfl⟩ := List.mem_map.mp hm
    rw [← zk1]
    exact List.mem_map.mpr ⟨z, hL z hz, rfl⟩
  · intro hm
    rw [← zk1] at hm
    obtain ⟨z, hz, rfl⟩ := List.mem_map.mp hm
    exact had.all z (by rw [← zl, List.take_length]; exact hz)
end
end Pw
end
section
set_option linter.all false
set_option maxRecDepth 100000
set_option maxHeartbeats 2000000
/-! Warm 1: raising while exceptions are handled, one within the other. -/
namespace Pw
open PySem PySem.Spec PyProof.Rows HotX
/-- what stands behind the i-th in the chain -/
def nxt (l : List (Addr × Obj)) (i : Nat) : Value := match l[i]? with | some q => .ref q.1 | none => .none
/-- the handled exception, its context, that one's context .. -/
structure Chn (l : List (Addr × Obj)) : Prop where
  link : ∀ i p, l[i]? = some p → ∃ vs, p.2.data = .fields vs ∧ vs[2]? = some (nxt l (i + 1))
  nd : (l.map (·.1)).Nodup
def Hdl (A : Around) (l : List (Addr × Obj)) : Prop := A.handled = (match l with | [] => none | p :: _ => some (.ref p.1))
def InH (h : Heap) (l : List (Addr × Obj)) : Prop := ∀ p ∈ l, h.get? p.1 = some p.2
theorem nxt_some {l : List (Addr × Obj)} {i : Nat} {q : Addr × Obj} (h : l[i]? = some q) : nxt l i = .ref q.1 := by
  unfold nxt
  rw [h]
theorem nxt_none {l : List (Addr × Obj)} {i : Nat} (h : l[i]? = none) : nxt l i = .none := by
  unfold nxt
  rw [h]
theorem chn_ne {l : List (Addr × Obj)} (c : Chn l) {i j : Nat} {p q : Addr × Obj} (hp : l[i]? = some p) (hq : l[j]? = some q) (h : i ≠ j) : p.1 ≠ q.1 := fun e => h (by
  have h1 : (l.map (·.1))[i]? = some p.1 := by rw [List.getElem?_map, hp]; rfl
  have h2 : (l.map (·.1))[j]? = some p.1 := by rw [List.getElem?_map, hq, e]; rfl
  obtain ⟨b1, e1⟩ := List.getElem?_eq_some_iff.mp h1
  obtain ⟨b2, e2⟩ := List.getElem?_eq_some_iff.mp h2
  rcases Nat.lt_trichotomy i j with k | k | k
  · exact absurd (e1.trans e2.symm) (List.pairwise_iff_getElem.mp c.nd i j b1 b2 k)
  · exact k
  · exact absurd (e2.trans e1.symm) (List.pairwise_iff_getElem.mp c.nd j i b2 b1 k))
theorem plain_unchain : plainId "proto.unchain" = true := by decide +kernel
section
variable {prog : Program} {w : World} {A : Around} {E : Value → Shared → Prop} {s : Shared} {l : List (Addr × Obj)}
theorem bne_ref {a b : Addr} (h : a ≠ b) : (Value.ref a == Value.ref b) = false := beq_eq_false_iff_ne.mpr fun e => h (Value.ref.inj e)
theorem unchain_loop (c : Chn l) (hi : InH s.heap l) {a : Addr} (ha : ∀ p ∈ l, p.1 ≠ a) {R : Result → Shared → Prop} (q : R (.ok (.ret .none)) s) : ∀ (n i j : Nat) (t : Bool) (p p2 : Addr × Obj), l.length - i = n → l[i]? = some p → l[j]? = some p2 → j ≤ i →
    codeAny (model prog w) A (.builtin "proto.unchain" ⟨[.ref a, .ref p.1, .ref p2.1, .bool t], []⟩) R s
  | 0, i, j, t, p, p2, hn, hp, _, _ => absurd (List.getElem?_eq_some_iff.mp hp).1 (by omega)
  | n + 1, i, j, t, p, p2, hn, hp, hj, hji => by
    refine codeAny_builtin entry_unchain ?_
    rw [Around.under_plainId plain_unchain _]
    show wpAny (model prog w) A.in1 (field (.ref p.1) 2 >>= _) _ _ s
    obtain ⟨vs, d, e⟩ := c.link i p hp
    refine wpAny_bind (wpAny_field (hi p (List.mem_of_getElem? hp)) d e ?_)
    cases hx : l[i + 1]? with
    | none =>
      rw [nxt_none hx, if_pos (show (Value.none == Value.none) = true from rfl)]
      first
      | exact wpAny_bind (wpAny_pure (wpAny_pure q))
      | exact wpAny_pure q
    | some p3 =>
      rw [nxt_some hx]
      have n1 : (Value.ref p3.1 == Value.none) = false := by simp
      have n2 : (Value.ref p3.1 == Value.ref a) = false := bne_ref (ha p3 (List.mem_of_getElem? hx))
      have n3 : (Value.ref p3.1 == Value.ref p2.1) = false := bne_ref (chn_ne c hx hj (by omega))
      simp only [n1, n2, n3, Bool.false_eq_true, if_false]
      have hlt : i + 1 < l.length := (List.getElem?_eq_some_iff.mp hx).1
      cases t with
      | false =>
        simp only [Bool.false_eq_true, if_false]
        refine wpAny_bind (wpAny_pure ?_)
        exact wpAny_pure ⟨plainId_quiet plain_unchain _, unchain_loop c hi ha q n (i + 1) j (!false) p3 p2 (by omega) hx hj (by omega)⟩
      | true =>
        simp only [if_true]
        obtain ⟨vs2, d2, e2⟩ := c.link j p2 hj
        refine wpAny_bind (wpAny_field (hi p2 (List.mem_of_getElem? hj)) d2 e2 ?_)
        have hx2 : l[j + 1]? = some l[j + 1] := List.getElem?_eq_getElem (by omega)
        rw [nxt_some hx2]
        exact wpAny_pure ⟨plainId_quiet plain_unchain _, unchain_loop c hi ha q n (i + 1) (j + 1) (!true) p3 _ (by omega) hx hx2 (by omega)⟩
/-- raised, whatever is handled -/
theorem raiseNew_warm {α : Type} {a : Addr} {oe : Obj} {vs : Array Value} {Q : α → Shared → Prop} (c : Chn l) (hi : InH s.heap l) (hd : Hdl A l) (hne : ∀ p ∈ l, p.1 ≠ a) (ha : s.heap.get? a = some oe) (da : oe.data = .fields vs) (h2 : 2 < vs.size)
    (hE0 : l = [] → E (.ref a) s) (hE1 : ∀ p r, l = p :: r → E (.ref a) { s with heap := s.heap.update a (Obj.mapFields (·.setIfInBounds 2 (.ref p.1))) }) : wpAny (model prog w) A (raiseNew (.ref a) : Sem α) Q E s := by
  unfold raiseNew
  refine wpAny_bind (wpAny_handled ?_)
  unfold Hdl at hd
  cases l with
  | nil =>
    rw [hd]
    exact wpAny_bind (wpAny_pure (wpAny_throw (hE0 rfl)))
  | cons p r =>
    rw [hd]
    have hb : (Value.ref p.1 != Value.ref a) = true := ref_bne (hne p List.mem_cons_self)
    have hu : ∀ {Q : Value → Shared → Prop}, Q .none s → wpAny (model prog w) A (holding [Value.ref a] (runValue (.builtin "proto.unchain" ⟨[.ref a, .ref p.1, .ref p.1, .bool false], []⟩))) Q E s := fun {Q} hq =>
      wpAny_holding (wpAny_runValue (unchain_loop (l := p :: r) c hi hne hq _ 0 0 false p p rfl rfl rfl (Nat.le_refl _)))
    show wpAny (model prog w) A (if (Value.ref p.1 != Value.ref a) = true then _ else _) _ _ _
    rw [if_pos hb]
    first
    | exact wpAny_bind (hu (wpAny_bind (chained ha da h2 (wpAny_throw (hE1 p r rfl)))))
    | exact wpAny_bind (wpAny_bind (hu (chained ha da h2 (wpAny_throw (hE1 p r rfl)))))
end
end Pw
end
section
set_option linter.all false
set_option maxRecDepth 100000
set_option maxHeartbeats 2000000
/-! Warm 2: iterators end while exceptions are handled. -/
namespace Pw
open PySem PySem.Spec PyProof.Rows HotX
structure Wk (A : Around) (h : Heap) (l : List (Addr × Obj)) : Prop where
  c : Chn l
  i : InH h l
  d : Hdl A l
theorem Wk.keep {A : Around} {h h' : Heap} {l : List (Addr × Obj)} (k : Wk A h l) (e : ∀ b o, h.get? b = some o → h'.get? b = some o) : Wk A h' l := ⟨k.c, fun p hp => e _ _ (k.i p hp), k.d⟩
theorem Wk.but {A : Around} {h h' : Heap} {l : List (Addr × Obj)} {it : Addr} (k : Wk A h l) (n : ∀ p ∈ l, p.1 ≠ it) (e : Heap.SameBut it h h') : Wk A h' l := ⟨k.c, fun p hp => (e.2 _ (n p hp)).trans (k.i p hp), k.d⟩
theorem Wk.in1 {A : Around} {h : Heap} {l : List (Addr × Obj)} (k : Wk A h l) : Wk A.in1 h l := ⟨k.c, k.i, k.d⟩
section
variable {prog : Program} {w : World} {A : Around} {E : Value → Shared → Prop} {s : Shared} {l : List (Addr × Obj)}
theorem stop_new {α : Type} {Q : α → Shared → Prop} (k : Wk A s.heap l) (hE : ∀ h' a, (∀ b o, s.heap.get? b = some o → h'.get? b = some o) → (∃ o, h'.get? a = some o ∧ o.cls = .type "StopIteration") → E (.ref a) { s with heap := h' }) :
    wpAny (model prog w) A (newExc (.type "StopIteration") [] >>= fun e => (raiseNew e : Sem α)) Q E s := by
  refine wpAny_bind ?_
  simp only [newExc, newTuple]
  refine wpAny_bind (wpAny_newObj_type ?_ (by size_fits))
  refine wpAny_bind (m := firstArgMember _ _) (wpAny_of_eq (a := Value.none) (by first | rfl | (simp only [firstArgMember]; rfl)) ?_)
  refine wpAny_newObj_type ?_ (by size_fits)
  have old : ∀ b o, s.heap.get? b = some o → ∀ {x y : Obj}, ((s.heap.push x).push y).get? b = some o := fun b o e x y => Heap.get?_push_of_some _ (Heap.get?_push_of_some _ e)
  refine raiseNew_warm (l := l) k.c (fun p hp => old _ _ (k.i p hp)) k.d (fun p hp => Nat.ne_of_lt (Heap.lt_size (Heap.get?_push_of_some _ (k.i p hp)))) (Heap.get?_push_size _ rfl) rfl (by first | (simp; done) | (simp; omega) | (simp only [Array.size_append]; simp; omega)) (fun _ => hE _ _ (fun b o e => old b o e) ⟨_, Heap.get?_push_size _ rfl, rfl⟩) fun p r _ => hE _ _ (fun b o e => ?_) ⟨_, Heap.get?_update_self _ (Heap.get?_push_size _ rfl) rfl, rfl⟩
  rw [Heap.get?_update_other _ _ (Nat.ne_of_gt (Heap.lt_size (Heap.get?_push_of_some _ e)))]
  exact old b o e
theorem ext_of {it : Addr} {h h1 h' : Heap} (a : Heap.SameBut it h h1) (e : ∀ b o, h1.get? b = some o → h'.get? b = some o) : Heap.ExtBut it h h' := fun b o hb q => e b o ((a.2 b hb).trans q)
theorem list_endW {it t : Addr} {i : Nat} {items : Array Value} {Q : Option Value → Shared → Prop} (k : Wk A s.heap l) (n : ∀ p ∈ l, p.1 ≠ it) (hit : s.heap.IsListIter it t i) (hl : s.heap.IsList t items) (hx : items[i]? = none)
    (hQ : ∀ h', Heap.ExtBut it s.heap h' → Q none { s with heap := h' }) : wpAny (model prog w) A (pyNext (.ref it)) Q E s := by
  obtain ⟨o, ho, hc, hd⟩ := id hit
  obtain ⟨ol, hol, _, nl, hdl⟩ := hl
  unfold pyNext
  refine wpAny_bind (wpAny_attempt (wpAny_callSpecial?_slot (name := Str.ofString "__next__") hit.typeIs slot_listiter_next (wpAny_call_entry slot_listiter_next hit.typeIs entry_listiter_next ?_ (args_listiter_next _))))
  show wpAny (model prog w) _ (field (.ref it) 0 >>= _) _ _ s
  refine wpAny_bind (wpAny_field ho hd (x := .ref t) rfl ?_)
  show wpAny (model prog w) _ (if (Value.ref t == Value.none) = true then _ else _) _ _ s
  rw [if_neg (show ¬ ((Value.ref t == Value.none) = true) from Bool.false_ne_true)]
  show wpAny (model prog w) _ (field (.ref it) 1 >>= _) _ _ s
  refine wpAny_bind (wpAny_field ho hd (x := .int i 0) rfl ?_)
  show wpAny (model prog w) _ (seqItems? (.ref t) >>= _) _ _ s
  refine wpAny_bind (wpAny_seqItems hol hdl ?_); simp only [Int.toNat_natCast, hx]
  refine wpAny_bind (wpAny_rule (wpAny_bind (wpAny_setField ho hd (by simp) ?_)))
  refine stop_new (A := A.in1) (l := l) (k.in1.but n (Heap.SameBut.update ..)) fun h' a e hx => ?_
  obtain ⟨oe, he, hce⟩ := hx
  refine wpAny_bind (wpAny_isInstance (T := "StopIteration") (b := true) ⟨oe, he, hce⟩ isSubtype_stop ?_)
  exact wpAny_pure (hQ _ (ext_of (Heap.SameBut.update ..) e))
theorem tuple_endW {it t : Addr} {i : Nat} {items : Array Value} {Q : Option Value → Shared → Prop} (k : Wk A s.heap l) (n : ∀ p ∈ l, p.1 ≠ it) (hit : s.heap.IsTupleIter it t i) (hl : s.heap.IsTuple t items) (hx : items[i]? = none)
    (hQ : ∀ h', Heap.ExtBut it s.heap h' → Q none { s with heap := h' }) : wpAny (model prog w) A (pyNext (.ref it)) Q E s := by
  obtain ⟨o, ho, hc, hd⟩ := id hit
  obtain ⟨ol, hol, _, nl, hdl⟩ := hl
  unfold pyNext
  refine wpAny_bind (wpAny_attempt (wpAny_callSpecial?_slot (name := Str.ofString "__next__") hit.typeIs F.slot_tuple_iterator_next (wpAny_call_entry F.slot_tuple_iterator_next hit.typeIs F.entry_tuple_iterator_next ?_ (F.args_tuple_iterator_next_1 _))))
  show wpAny (model prog w) _ (field (.ref it) 0 >>= _) _ _ s
  refine wpAny_bind (wpAny_field ho hd (x := .ref t) rfl ?_)
  show wpAny (model prog w) _ (if (Value.ref t == Value.none) = true then _ else _) _ _ s
  rw [if_neg (show ¬ ((Value.ref t == Value.none) = true) from Bool.false_ne_true)]
  show wpAny (model prog w) _ (field (.ref it) 1 >>= _) _ _ s
  refine wpAny_bind (wpAny_field ho hd (x := .int i 0) rfl ?_)
  show wpAny (model prog w) _ (seqItems? (.ref t) >>= _) _ _ s
  refine wpAny_bind (wpAny_seqItems hol hdl ?_); simp only [Int.toNat_natCast, hx]
  refine wpAny_bind (wpAny_rule (wpAny_bind (wpAny_setField ho hd (by simp) ?_)))
  refine stop_new (A := A.in1) (l := l) (k.in1.but n (Heap.SameBut.update ..)) fun h' a e hx => ?_
  obtain ⟨oe, he, hce⟩ := hx
  refine wpAny_bind (wpAny_isInstance (T := "StopIteration") (b := true) ⟨oe, he, hce⟩ isSubtype_stop ?_)
  exact wpAny_pure (hQ _ (ext_of (Heap.SameBut.update ..) e))
theorem range_endW {it : Addr} {x left step : Int} {Q : Option Value → Shared → Prop} (k : Wk A s.heap l) (hit : IsRangeIter s.heap it x left step) (hleft : left ≤ 0)
    (hQ : ∀ h', (∀ b o, s.heap.get? b = some o → h'.get? b = some o) → Q none { s with heap := h' }) : wpAny (model prog w) A (pyNext (.ref it)) Q E s := by
  have hT : s.TypeIs (.ref it) "range_iterator" := ⟨_, hit, rfl⟩
  unfold pyNext
  refine wpAny_bind (wpAny_attempt (wpAny_callSpecial?_slot (name := Str.ofString "__next__") hT F.slot_range_iterator_next (wpAny_call_entry F.slot_range_iterator_next hT F.entry_range_iterator_next ?_ (F.args_range_iterator_next_1 _))))
  show wpAny (model prog w) _ (field (.ref it) 0 >>= _) _ _ s
  refine wpAny_bind (wpAny_field hit rfl (x := rawInt x) rfl ?_)
  show wpAny (model prog w) _ (field (.ref it) 1 >>= _) _ _ s
  refine wpAny_bind (wpAny_field hit rfl (x := rawInt left) rfl ?_)
  show wpAny (model prog w) _ (field (.ref it) 2 >>= _) _ _ s
  refine wpAny_bind (wpAny_field hit rfl (x := rawInt step) rfl ?_)
  show wpAny (model prog w) _ (if left ≤ 0 then _ else _) _ _ s
  rw [if_pos hleft]
  refine wpAny_bind (wpAny_rule ?_)
  refine wpAny_bind ?_
  refine stop_new (A := A.in1) (l := l) k.in1 fun h' a e hx => ?_
  obtain ⟨oe, he, hce⟩ := hx
  refine wpAny_bind (wpAny_isInstance (T := "StopIteration") (b := true) ⟨oe, he, hce⟩ isSubtype_stop ?_)
  exact wpAny_pure (hQ _ e)
theorem enum_endW {e it t : Addr} {i : Nat} {items : Array Value} {old : Value} {Q : Option Value → Shared → Prop} (k : Wk A s.heap l) (n : ∀ p ∈ l, p.1 ≠ it) (he : IsEnum s.heap e it i old) (hit : s.heap.IsListIter it t i) (hl : s.heap.IsList t items) (hx : items[i]? = none)
    (hQ : ∀ h', Heap.ExtBut it s.heap h' → Q none { s with heap := h' }) : wpAny (model prog w) A (pyNext (.ref e)) Q E s := by
  have hT : s.TypeIs (.ref e) "enumerate" := ⟨_, he, rfl⟩
  unfold pyNext
  refine wpAny_bind (wpAny_attempt (wpAny_callSpecial?_slot (name := Str.ofString "__next__") hT F.slot_enumerate_next (wpAny_call_entry F.slot_enumerate_next hT F.entry_enumerate_next ?_ (F.args_enumerate_next_1 _))))
  show wpAny (model prog w) _ (field (.ref e) 2 >>= _) _ _ _
  refine wpAny_bind (wpAny_field he rfl (x := .ref it) rfl ?_)
  refine wpAny_bind ?_
  obtain ⟨o, ho, hc, hd⟩ := id hit
  obtain ⟨ol, hol, _, nl, hdl⟩ := hl
  unfold Builtin.SmallTypes.nextOf
  refine wpAny_bind (wpAny_callSpecial?_slot (name := Str.ofString "__next__") hit.typeIs slot_listiter_next (wpAny_call_entry slot_listiter_next hit.typeIs entry_listiter_next ?_ (args_listiter_next _)))
  show wpAny (model prog w) _ (field (.ref it) 0 >>= _) _ _ s
  refine wpAny_bind (wpAny_field ho hd (x := .ref t) rfl ?_)
  show wpAny (model prog w) _ (if (Value.ref t == Value.none) = true then _ else _) _ _ s
  rw [if_neg (show ¬ ((Value.ref t == Value.none) = true) from Bool.false_ne_true)]
  show wpAny (model prog w) _ (field (.ref it) 1 >>= _) _ _ s
  refine wpAny_bind (wpAny_field ho hd (x := .int i 0) rfl ?_)
  show wpAny (model prog w) _ (seqItems? (.ref t) >>= _) _ _ s
  refine wpAny_bind (wpAny_seqItems hol hdl ?_); simp only [Int.toNat_natCast, hx]
  refine wpAny_bind (wpAny_rule (wpAny_bind (wpAny_setField ho hd (by simp) ?_)))
  refine stop_new (A := A.in1.in1) (l := l) (k.in1.in1.but n (Heap.SameBut.update ..)) fun h' a e hx => ?_
  obtain ⟨oe, he, hce⟩ := hx
  refine wpAny_bind (wpAny_isInstance (T := "StopIteration") (b := true) ⟨oe, he, hce⟩ isSubtype_stop ?_)
  exact wpAny_pure (hQ _ (ext_of (Heap.SameBut.update ..) e))
end
end Pw
end
section
set_option linter.all false
set_option maxRecDepth 100000
set_option maxHeartbeats 2000000
/-! Warm 3: contexts within except suites, loops and comprehensions there. -/
namespace Pw
open PySem PySem.Spec PyProof.Rows L2 HotX
abbrev LSt := L2.St
/-- p's object stays as it is -/
def Held (X : Cx) (p : Addr × Obj) : Prop := p ∈ X.pn ∨ (X.s_0.heap.get? p.1 = some p.2 ∧ X.H_0 p.1 = none ∧ p.1 ∉ X.fs ∧ p.1 ∉ X.ex ∧ ∀ v, p.2.data ≠ .cell v)
/-- whatever is handled here, its chain is known -/
def WarmC (X : Cx) : Prop := ∃ l, Chn l ∧ Hdl X.A l ∧ ∀ p ∈ l, Held X p
section
variable {X : Cx} {pins : List (Addr × Obj)} {σ : LSt} {H : Hp} {s : Shared}
theorem Held.at {p : Addr × Obj} (h : Held X p) (I : Inv X pins σ H s) : s.heap.get? p.1 = some p.2 ∧ H p.1 = none ∧ p.1 ≠ X.env.locals ∧ p.1 ∉ X.fs ∧ ∀ v, p.2.data ≠ .cell v := by
  rcases h with h | ⟨h1, h2, h3, h4, h5⟩
  · exact I.pin p (List.mem_append_left _ h)
  · exact ⟨I.base.keep _ _ h1 h2 h3 h4, I.base.free _ _ h1 h2 h4, Nat.ne_of_lt (Nat.lt_of_lt_of_le (Heap.lt_size h1) I.ok.above), h3, h5⟩
theorem Held.off {p : Addr × Obj} (h : Held X p) {b : Addr} (f : FpOk X pins H b) : p.1 ≠ b := by
  obtain ⟨f0, f1, f2, f3, f4, f5⟩ := f
  rcases h with h | ⟨h1, h2, h3, h4, h5⟩
  · exact f5 p (List.mem_append_left _ h)
  · rintro rfl
    rcases f3 with z | z
    · exact h4 z
    · exact absurd (Heap.lt_size h1) (Nat.not_lt_of_le z)
theorem WarmC.at (c : WarmC X) (I : Inv X pins σ H s) : ∃ l, Wk X.A s.heap l ∧ ∀ b, FpOk X pins H b → ∀ p ∈ l, p.1 ≠ b := by
  obtain ⟨l, h1, h2, h3⟩ := c
  exact ⟨l, ⟨h1, fun p hp => ((h3 p hp).at I).1, h2⟩, fun b f p hp => (h3 p hp).off f⟩
theorem WarmC.calm (h : X.A.handled = none) : WarmC X := ⟨[], ⟨(fun i p hp => by simp at hp), List.nodup_nil⟩, h, fun p hp => nomatch hp⟩
/-- within a comprehension's block -/
theorem WarmC.blk (c : WarmC X) (I : Inv X pins σ H s) {scope : Scope} {env : Env} {fp : List Addr} (hf : ∀ b ∈ fp, FpOk X pins H b) : WarmC (X.blk s H scope env fp) := by
  obtain ⟨l, h1, h2, h3⟩ := c
  refine ⟨l, h1, h2, fun p hp => .inr ?_⟩
  obtain ⟨e1, e2, e3, e4, e5⟩ := (h3 p hp).at I
  exact ⟨e1, e2, fun hm => (List.mem_cons.mp (I.stkSub p.1 hm)).elim e3 e4, fun hm => (h3 p hp).off (hf _ hm) rfl, e5⟩
end
structure TurnW (P : Program) (w : World) (K : PySem.W.Frag) (tg : Expr) (J : It) (fp : List Addr) (it : Addr) (tn : Nat → Heap → Prop) : Prop where
  mem : it ∈ fp
  obj : ∀ i h, tn i h → ∀ b ∈ fp, ∃ o, h.get? b = some o ∧ ∀ v, o.data ≠ .cell v
  keep : ∀ i h h', tn i h → (∀ b ∈ fp, ∀ o, h.get? b = some o → h'.get? b = some o) → tn i h'
  item : ∀ (X : Cx), X.prog = P → X.w = w → X.K = K → ∀ (i : Nat) (pins : List (Addr × Obj)) (s : Shared) (σ : LSt) (H : Hp) (E : Value → Shared → Prop), Inv X pins σ H s → (∀ b ∈ fp, FpOk X pins H b) → tn i s.heap → J.go i H →
    wpAny (model P w) X.A (pyNext (.ref it)) (fun r s1 => ∃ u, r = some u ∧
      wpAny (model P w) X.A (letOwnedTupleGo tg (.ref it) u) (fun _ s2 => ∃ x H', Inv X pins σ H' s2 ∧ RelV x u ∧ J.yld i H x H' ∧ tn (i + 1) s2.heap ∧ ∀ b ∈ fp, H' b = none) E s1) E s
  done : ∀ (X : Cx), X.prog = P → X.w = w → X.K = K → WarmC X → ∀ (i : Nat) (pins : List (Addr × Obj)) (s : Shared) (σ : LSt) (H : Hp) (E : Value → Shared → Prop), Inv X pins σ H s → (∀ b ∈ fp, FpOk X pins H b) → tn i s.heap → J.stop i H →
    wpAny (model P w) X.A (pyNext (.ref it)) (fun r s1 => r = none ∧ Inv X pins σ H s1) E s
  self : ∀ (A : Around) (i : Nat) (s : Shared) (Q : Value → Shared → Prop) (E : Value → Shared → Prop), tn i s.heap → Q (.ref it) s → wpAny (model P w) A (pyIter (.ref it)) Q E s
theorem only_it {it : Addr} {X : Cx} {pins : List (Addr × Obj)} {H : Hp} (hf : ∀ b ∈ [it], FpOk X pins H b) : FpOk X pins H it := hf it (List.mem_singleton.mpr rfl)
theorem turnW_list {P : Program} {w : World} {K : PySem.W.Frag} {tg : Expr} (a it : Addr) : TurnW P w K tg (Itl K a) [it] it (fun i h => h.IsListIter it a i) where
  mem := List.mem_singleton.mpr rfl
  obj := fun i h st b hb => by
    obtain ⟨o, e, c, d⟩ := st
    rw [List.mem_singleton.mp hb]
    exact ⟨o, e, fun v z => by rw [d] at z; cases z⟩
  keep := fun i h h' st k => st.at fun o e => k it (List.mem_singleton.mpr rfl) o e
  item := by
    intro X hP hw hK i pins s σ H E I hf st hg
    subst hP hw hK
    obtain ⟨xs, x, hq, hx⟩ := hg
    obtain ⟨its, rv, p, hz⟩ := I.list hq
    obtain ⟨u, hu, ru⟩ := rv.get hx
    obtain ⟨f0, f1, f2, f3, f4, f5⟩ := only_it hf
    refine wpAny_pyNext_list_item st p.isList (x := u) (by simpa using hu) fun h' st' sb => ?_
    have J := I.turned (t' := s.toks) (fun b o hb e => (sb.2 b hb).trans e) f0 f1 f3 f4 f5
    obtain ⟨o, e, c, d⟩ := id st'
    exact ⟨u, rfl, go_of (s := { s with heap := h' }) e c d (by decide) ⟨x, H, J, ru, ⟨rfl, fun ys hy => by rw [I.list_inj hy hq]; exact hx⟩, st', fun b hb => (hf b hb).1⟩⟩
  done := by
    intro X hP hw hK hc i pins s σ H E I hf st hg
    subst hP hw hK
    obtain ⟨xs, hq, hx⟩ := hg
    obtain ⟨its, rv, p, hz⟩ := I.list hq
    obtain ⟨l, k, off⟩ := hc.at I
    have f := only_it hf
    obtain ⟨f0, f1, f2, f3, f4, f5⟩ := id f
    have hl := rv.length
    exact list_endW k (off _ f) st p.isList (by simp; omega) fun h' eb => ⟨rfl, I.turned (t' := s.toks) (fun b o hb e => eb b o hb e) f0 f1 f3 f4 f5⟩
  self := fun _ _ _ _ _ st h => wpAny_pyIter_listiter st h
theorem turnW_tuple {P : Program} {w : World} {K : PySem.W.Frag} {tg : Expr} (a it : Addr) : TurnW P w K tg (Itt K a) [it] it (fun i h => h.IsTupleIter it a i) where
  mem := List.mem_singleton.mpr rfl
  obj := fun i h st b hb => by
    obtain ⟨o, e, c, d⟩ := st
    rw [List.mem_singleton.mp hb]
    exact ⟨o, e, fun v z => by rw [d] at z; cases z⟩
  keep := fun i h h' st k => st.at fun o e => k it (List.mem_singleton.mpr rfl) o e
  item := by
    intro X hP hw hK i pins s σ H E I hf st hg
    subst hP hw hK
    obtain ⟨xs, x, hq, hx⟩ := hg
    obtain ⟨its, rv, p, hz⟩ := I.tuple hq
    obtain ⟨u, hu, ru⟩ := rv.get hx
    obtain ⟨f0, f1, f2, f3, f4, f5⟩ := only_it hf
    refine wpAny_pyNext_tuple_item st (show s.heap.IsTuple a its.toArray from p) (x := u) (by simpa using hu) fun h' st' sb => ?_
    have J := I.turned (t' := s.toks) (fun b o hb e => (sb.2 b hb).trans e) f0 f1 f3 f4 f5
    obtain ⟨o, e, c, d⟩ := id st'
    exact ⟨u, rfl, go_of (s := { s with heap := h' }) e c d (by decide) ⟨x, H, J, ru, ⟨rfl, fun ys hy => by rw [I.tuple_inj hy hq]; exact hx⟩, st', fun b hb => (hf b hb).1⟩⟩
  done := by
    intro X hP hw hK hc i pins s σ H E I hf st hg
    subst hP hw hK
    obtain ⟨xs, hq, hx⟩ := hg
    obtain ⟨its, rv, p, hz⟩ := I.tuple hq
    obtain ⟨l, k, off⟩ := hc.at I
    have f := only_it hf
    obtain ⟨f0, f1, f2, f3, f4, f5⟩ := id f
    have hl := rv.length
    exact tuple_endW k (off _ f) st (show s.heap.IsTuple a its.toArray from p) (by simp; omega) fun h' eb => ⟨rfl, I.turned (t' := s.toks) (fun b o hb e => eb b o hb e) f0 f1 f3 f4 f5⟩
  self := fun _ _ _ _ _ st h => wpAny_pyIter_tupleiter st h
theorem turnW_range {P : Program} {w : World} {K : PySem.W.Frag} {tg : Expr} (it : Addr) (lo : Int) (n : Nat) : TurnW P w K tg (Itr lo n) [it] it (fun i h => IsRangeIter h it (lo + (i : Nat) * 1) ((n : Int) - (i : Nat)) 1) where
  mem := List.mem_singleton.mpr rfl
  obj := fun i h st b hb => by
    rw [List.mem_singleton.mp hb]
    exact ⟨_, st, fun v z => nomatch z⟩
  keep := fun i h h' st k => k it (List.mem_singleton.mpr rfl) _ st
  item := by
    intro X hP hw hK i pins s σ H E I hf st hg
    subst hP hw hK
    obtain ⟨f0, f1, f2, f3, f4, f5⟩ := only_it hf
    have hlt : i < n := hg
    refine wpAny_pyNext_range_item st (by omega) fun h' st' sb => ?_
    have st2 : IsRangeIter h' it (lo + ((i + 1 : Nat) : Int) * 1) ((n : Int) - ((i + 1 : Nat) : Int)) 1 := by
      rw [show lo + ((i + 1 : Nat) : Int) * 1 = lo + ((i : Nat) : Int) * 1 + 1 by omega, show (n : Int) - ((i + 1 : Nat) : Int) = (n : Int) - ((i : Nat) : Int) - 1 by omega]
      exact st'
    have J := I.turned (t' := s.toks + 1) (fun b o hb e => (sb.2 b hb).trans e) f0 f1 f3 f4 f5
    refine ⟨_, rfl, go_of (s := { s with heap := h', toks := s.toks + 1 }) (n := "range_iterator") st2 rfl rfl (by decide) ⟨.int (lo + i), H, J, ⟨s.toks, ?_⟩, ⟨rfl, rfl⟩, st2, fun b hb => (hf b hb).1⟩⟩
    rw [Int.mul_one]
  done := by
    intro X hP hw hK hc i pins s σ H E I hf st hg
    subst hP hw hK
    obtain ⟨f0, f1, f2, f3, f4, f5⟩ := only_it hf
    obtain ⟨l, k, off⟩ := hc.at I
    exact range_endW k st (by have : n ≤ i := hg; omega) fun h' eb => ⟨rfl, I.turned (t' := s.toks) (fun b o _ e => eb b o e) f0 f1 f3 f4 f5⟩
  self := fun _ _ _ _ _ st h => wpAny_pyIter_rangeiter st h
theorem turnW_enum {P : Program} {w : World} {K : PySem.W.Frag} {elts : List Expr} {kk : Nat} {tpos : Pos} (a e it : Addr) :
    TurnW P w K (.Tuple elts kk tpos) (Ite K a) [e, it] e (fun i h => (∃ old, IsEnum h e it ((i : Nat) : Int) old) ∧ h.IsListIter it a i ∧ e ≠ it) where
  mem := List.mem_cons_self
  obj := fun i h st b hb => by
    obtain ⟨⟨old, he⟩, ⟨o, ho, hc, hd⟩, _⟩ := st
    rcases List.mem_cons.mp hb with z | z
    · rw [z]; exact ⟨_, he, fun v q => nomatch q⟩
    · rw [List.mem_singleton.mp z]; exact ⟨o, ho, fun v q => by rw [hd] at q; cases q⟩
  keep := fun i h h' st k => let ⟨⟨old, he⟩, hi, hne⟩ := st; ⟨⟨old, k e (by simp) _ he⟩, hi.at fun o q => k it (by simp) o q, hne⟩
  item := by
    intro X hP hw hK i pins s σ H E I hf st hg
    subst hP hw hK
    obtain ⟨⟨old, he⟩, hit, hne⟩ := st
    obtain ⟨xs, x, hq, hx⟩ := hg
    obtain ⟨its, rv, p, hz⟩ := I.list hq
    obtain ⟨u, hu, ru⟩ := rv.get hx
    have hel : e < s.heap.objs.size := Heap.lt_size he
    have hil : it < s.heap.objs.size := by obtain ⟨_, q, _⟩ := hit; exact Heap.lt_size q
    have hb2 : ∀ b ∈ [e, it], b < s.heap.objs.size := fun b hb => by
      rcases List.mem_cons.mp hb with z | z
      · rw [z]; exact hel
      · rw [List.mem_singleton.mp z]; exact hil
    refine wpAny_pyNext_enum_item he hit p.isList (x := u) (by simpa using hu) hne fun h' ho hit' hT hsz hk => ?_
    refine ⟨_, rfl, wpAny_letOwnedTupleGo_enum (s := { s with heap := h', toks := s.toks + 1 }) ho fun h'' he' sb => ?_⟩
    have hT2 := (sb.2 _ (Nat.ne_of_gt hel)).trans hT
    have new : ObjOk X.prog X.w (upd H s.heap.objs.size (.tup [.int (i : Nat), x])) h'' s.heap.objs.size (.tup [.int (i : Nat), x]) :=
      ⟨by show 2 ≤ sizeLine; decide, [.int i s.toks, u], .cons ⟨_, rfl⟩ (.cons ru .nil), ⟨_, hT2, rfl, _, rfl⟩⟩
    have J : Inv X pins σ (upd H s.heap.objs.size (.tup [.int (i : Nat), x])) { s with heap := h'', toks := s.toks + 1 } :=
      I.turnedNew (ch := [e, it]) (fun b ob hb q => (sb.2 b (fun z => hb (by simp [z]))).trans (hk b ob (fun z => hb (by simp [z])) (fun z => hb (by simp [z])) q)) hf (Nat.le_refl _) new
    refine ⟨.ref s.heap.objs.size, _, J, rfl, ⟨_, x, rfl, I.hok.fresh (Nat.le_refl _), rfl, fun ys hy => by rw [I.list_inj hy hq]; exact hx⟩, ⟨⟨u, ?_⟩, hit'.at fun o q => (sb.2 it (Ne.symm hne)).trans q, hne⟩, fun b hb => ?_⟩
    · rw [show ((i + 1 : Nat) : Int) = (i : Int) + 1 by omega]; exact he'
    · rw [upd_ne (Nat.ne_of_lt (hb2 b hb))]
      exact (hf b hb).1
  done := by
    intro X hP hw hK hc i pins s σ H E I hf st hg
    subst hP hw hK
    obtain ⟨⟨old, he⟩, hit, hne⟩ := st
    obtain ⟨xs, hq, hx⟩ := hg
    obtain ⟨its, rv, p, hz⟩ := I.list hq
    have f := hf it (by simp)
    obtain ⟨f0, f1, f2, f3, f4, f5⟩ := id f
    obtain ⟨l, k, off⟩ := hc.at I
    have hl := rv.length
    exact enum_endW k (off _ f) he hit p.isList (by simp; omega) fun h' eb => ⟨rfl, I.turned (t' := s.toks) (fun b o hb q => eb b o hb q) f0 f1 f3 f4 f5⟩
  self := fun A i s Q E st h => let ⟨⟨_, he⟩, _⟩ := st; wpAny_pyIter_enum he h
/-- an iterator has come -/
def PIEW (X : Cx) (pins : List (Addr × Obj)) (σ : LSt) (tg : Expr) (R : It → Hp → Prop) (itv : Value) (s2 : Shared) : Prop :=
  ∃ (it : Addr) (fp : List Addr) (tn : Nat → Heap → Prop) (J : It) (H' : Hp), itv = .ref it ∧ Inv X pins σ H' s2 ∧ TurnW X.prog X.w X.K tg J fp it tn ∧ tn 0 s2.heap ∧ (∀ b ∈ fp, FpOk X pins H' b) ∧ R J H'
structure PIW (X : Cx) (tg iter : Expr) (wi : TI) : Prop where
  run : ∀ (pins : List (Addr × Obj)) (s : Shared) (σ : LSt) (H : Hp) (R : It → Hp → Prop), Inv X pins σ H s → wi σ H R →
    wpAny (model X.prog X.w) X.A (eval iter X.env) (fun v s1 => wpAny (model X.prog X.w) X.A (pyIter v) (PIEW X pins σ tg R) X.xe s1) X.xe s
section
variable {X : Cx} {tg : Expr}
theorem piW_list {l : Expr} {tl : TE} (hl : PE X l tl) : PIW X tg l (iList X.K tl) := by
  refine ⟨fun pins s σ H R I h => ?_⟩
  refine thn (hl.run pins s σ H _ I h) fun v s1 ⟨x, H1, I1, r1, a, e, ⟨xs, hq⟩, q⟩ => ?_
  subst e
  cases r1
  obtain ⟨its, rv, p, hz⟩ := I1.list hq
  refine wpAny_pyIter_list p.isList ⟨s1.heap.objs.size, [s1.heap.objs.size], _, _, H1, rfl, I1.kept (t' := s1.toks) fun b o e => Heap.get?_push_of_some _ e, turnW_list a _, ⟨_, Heap.get?_push_size _ rfl, rfl, rfl⟩, fun b hb => ?_, q⟩
  rw [List.mem_singleton.mp hb]
  exact I1.fpOk (Nat.le_refl _) (I1.hok.fresh (Nat.le_refl _))
theorem piW_tup {l : Expr} {tl : TE} (hl : PE X l tl) : PIW X tg l (iTup X.K tl) := by
  refine ⟨fun pins s σ H R I h => ?_⟩
  refine thn (hl.run pins s σ H _ I h) fun v s1 ⟨x, H1, I1, r1, a, e, ⟨xs, hq⟩, q⟩ => ?_
  subst e
  cases r1
  obtain ⟨its, rv, p, hz⟩ := I1.tuple hq
  refine wpAny_pyIter_tuple (show s1.heap.IsTuple a its.toArray from p) ⟨s1.heap.objs.size, [s1.heap.objs.size], _, _, H1, rfl, I1.kept (t' := s1.toks) fun b o e => Heap.get?_push_of_some _ e, turnW_tuple a _, ⟨_, Heap.get?_push_size _ rfl, rfl, rfl⟩, fun b hb => ?_, q⟩
  rw [List.mem_singleton.mp hb]
  exact I1.fpOk (Nat.le_refl _) (I1.hok.fresh (Nat.le_refl _))
theorem piW_enum {e : Expr} {ta : TA} {p pos tpos : Pos} {elts : List Expr} {kk : Nat} (hg : Gl X "enumerate") (hm : X.mg "enumerate" = none) (ha : PA X [e] ta) (hs : starEach [e] X.env = [(false, eval e X.env)] := by rfl) :
    PIW X (.Tuple elts kk tpos) (.Call (.Name "enumerate" p) [e] [] pos) (iEnum X.K ta) := by
  refine ⟨fun pins s σ H R I h => ?_⟩
  refine Call_ (ld_blt I hg hm boot_enumerate (PyProof.Rows.callWith_type1 (thn (ha.run pos pins s σ H _ I h) fun us s1 ⟨vs, H1, I1, r1, a, xs, ex, hq, q⟩ => ?_) hs rfl))
  subst ex
  rw [Vals.ref1 r1]
  obtain ⟨its, rv, p', hz⟩ := I1.list hq
  refine call_enumerate_list p'.isList fun h' he hit hsz hk => wpAny_pyIter_enum he ?_
  refine ⟨s1.heap.objs.size + 1, [s1.heap.objs.size + 1, s1.heap.objs.size], _, _, H1, rfl, I1.kept (t' := s1.toks) hk, turnW_enum a (s1.heap.objs.size + 1) s1.heap.objs.size, ⟨⟨.none, he⟩, hit, Nat.succ_ne_self _⟩, fun b hb => ?_, q⟩
  have hle : s1.heap.objs.size ≤ b := by
    rcases List.mem_cons.mp hb with z | z
    · rw [z]; exact Nat.le_add_right _ _
    · rw [List.mem_singleton.mp z]; exact Nat.le_refl _
  exact I1.fpOk hle (I1.hok.fresh hle)
theorem range_itW {pins : List (Addr × Obj)} {σ : LSt} {H : Hp} {s : Shared} {R : It → Hp → Prop} {E : Value → Shared → Prop} {lo hi : Int} {t u v : Tok} {tk : Nat} (I : Inv X pins σ H s) (h1 : -(2 ^ 62) ≤ lo) (h2 : lo < 2 ^ 62) (h3 : -(2 ^ 62) ≤ hi) (h4 : hi < 2 ^ 62)
    (q : R (Itr lo (hi - lo).toNat) H) : wpAny (model X.prog X.w) X.A (pyIter (.ref s.heap.objs.size)) (PIEW X pins σ tg R) E { s with heap := s.heap.push { cls := .type "range", data := .fields #[.int lo t, .int hi u, .int 1 v] }, toks := tk } := by
  refine wpAny_pyIter_range (IsRange.new ..) (small_one h1 h2 h3 h4) ?_
  have J : Inv X pins σ H { s with heap := s.heap.push { cls := .type "range", data := .fields #[.int lo t, .int hi u, .int 1 v] }, toks := tk } := I.kept fun b o e => Heap.get?_push_of_some _ e
  generalize hr : s.heap.push { cls := .type "range", data := .fields #[.int lo t, .int hi u, .int 1 v] } = hp at J
  refine ⟨hp.objs.size, [hp.objs.size], _, _, H, rfl, J.kept (t' := tk) fun b o e => Heap.get?_push_of_some _ e, turnW_range _ lo (hi - lo).toNat, ?_, fun b hb => ?_, q⟩
  · have e1 : lo + ((0 : Nat) : Int) * 1 = lo := by simp
    have e2 : (((hi - lo).toNat : Nat) : Int) - ((0 : Nat) : Int) = Builtin.Range.rangeSize lo hi 1 := by rw [rangeSize_one]; split <;> omega
    show IsRangeIter _ _ (lo + ((0 : Nat) : Int) * 1) ((((hi - lo).toNat : Nat) : Int) - ((0 : Nat) : Int)) 1
    rw [e1, e2]
    exact Heap.get?_push_size _ rfl
  · rw [List.mem_singleton.mp hb]
    exact J.fpOk (Nat.le_refl _) (J.hok.fresh (Nat.le_refl _))
theorem piW_range1 {a : Expr} {ta : TA} {p pos : Pos} (hg : Gl X "range") (hm : X.mg "range" = none) (ha : PA X [a] ta) (hs : starEach [a] X.env = [(false, eval a X.env)] := by rfl) : PIW X tg (.Call (.Name "range" p) [a] [] pos) (iRng1 ta) := by
  refine ⟨fun pins s σ H R I h => ?_⟩
  refine Call_ (ld_blt I hg hm boot_range (PyProof.Rows.callWith_type1 (thn (ha.run pos pins s σ H _ I h) fun us s1 ⟨vs, H1, I1, r1, j, e, q1, q2, q⟩ => ?_) hs rfl))
  subst e
  cases r1 with
  | cons r rr =>
    cases rr
    obtain ⟨t, rfl⟩ := r
    exact call_range_1 (range_itW I1 (by omega) (by omega) q1 q2 (by simpa using q))
end
end Pw
end
section
set_option linter.all false
set_option maxRecDepth 100000
set_option maxHeartbeats 2000000
/-! Warm 4: all(tuple), sum(list, start=0), a, b = tuple; for, comprehensions. -/
namespace Pw
open PySem PySem.Spec PyProof.Rows L2 HotX
section
variable {prog : Program} {w : World} {A : Around} {E : Value → Shared → Prop} {s : Shared} {l : List (Addr × Obj)}
abbrev chA (l : List (Addr × Obj)) : List Addr := l.map (·.1)
theorem inH_frame {h h' : Heap} (i : InH h l) {fp : List Addr} (k : ∀ b ∈ fp, ∀ o, h.get? b = some o → h'.get? b = some o) (s : ∀ b ∈ chA l, b ∈ fp) : InH h' l := fun p hp => k _ (s _ (List.mem_map.mpr ⟨p, hp, rfl⟩)) _ (i p hp)
theorem walkW_list (c : Chn l) (d : Hdl A l) (I t : Addr) (hne : t ≠ I) (n : ∀ p ∈ l, p.1 ≠ I) (items : Array Value) :
    Walks prog w A I (I :: t :: chA l) [I] items.size (fun i v => items[i]? = some v) (fun i h => h.IsListIter I t i ∧ h.IsList t items ∧ InH h l) where
  sub := fun b hb => by rw [List.mem_singleton.mp hb]; exact List.mem_cons_self
  frame := fun _ _ _ st k => ⟨st.1.at fun o e => k I (by simp) o e, st.2.1.at fun o e => k t (by simp) o e, inH_frame st.2.2 k fun b hb => List.mem_cons_of_mem _ (List.mem_cons_of_mem _ hb)⟩
  item := fun i s Q E hi st hQ => by
    refine wpAny_pyNext_list_item st.1 st.2.1 (x := items[i]) (by simp [hi]) fun h' hit' hs' => ?_
    exact hQ _ h' s.toks (by simp [hi]) ⟨hit', st.2.1.extBut hs'.extBut hne, fun p hp => (hs'.2 _ (n p hp)).trans (st.2.2 p hp)⟩ fun b o hb e => hs'.extBut b o (fun h => hb (by simp [h])) e
  done := fun s Q E st hQ => list_endW ⟨c, st.2.2, d⟩ n st.1 st.2.1 (by simp) fun h' he' => hQ h' s.toks fun b o hb e => he' b o (fun h => hb (by simp [h])) e
  self := fun _ _ _ _ st hQ => wpAny_pyIter_listiter st.1 hQ
theorem walkW_tuple (c : Chn l) (d : Hdl A l) (I t : Addr) (hne : t ≠ I) (n : ∀ p ∈ l, p.1 ≠ I) (items : Array Value) :
    Walks prog w A I (I :: t :: chA l) [I] items.size (fun i v => items[i]? = some v) (fun i h => h.IsTupleIter I t i ∧ h.IsTuple t items ∧ InH h l) where
  sub := fun b hb => by rw [List.mem_singleton.mp hb]; exact List.mem_cons_self
  frame := fun _ _ _ st k => ⟨st.1.at fun o e => k I (by simp) o e, let ⟨o, e, r⟩ := st.2.1; ⟨o, k t (by simp) o e, r⟩, inH_frame st.2.2 k fun b hb => List.mem_cons_of_mem _ (List.mem_cons_of_mem _ hb)⟩
  item := fun i s Q E hi st hQ => by
    refine wpAny_pyNext_tuple_item st.1 st.2.1 (x := items[i]) (by simp [hi]) fun h' hit' hs' => ?_
    exact hQ _ h' s.toks (by simp [hi]) ⟨hit', st.2.1.extBut hs'.extBut hne, fun p hp => (hs'.2 _ (n p hp)).trans (st.2.2 p hp)⟩ fun b o hb e => hs'.extBut b o (fun h => hb (by simp [h])) e
  done := fun s Q E st hQ => tuple_endW ⟨c, st.2.2, d⟩ n st.1 st.2.1 (by simp) fun h' he' => hQ h' s.toks fun b o hb e => he' b o (fun h => hb (by simp [h])) e
  self := fun _ _ _ _ st hQ => wpAny_pyIter_tupleiter st.1 hQ
theorem call_tree_kw {id : String} {b : Builtin} {args : List Value} {kw : List (Str × Value)} {Q : Value → Shared → Prop} (hk : builtinKind id = none) (hp : plainId id = true) (hb : entryFor table id = some b) (ha : argsOk id ⟨args, kw⟩)
    (hc : wpAny (model prog w) A.in1 (b ⟨args, kw⟩) (fun fin s' => match fin with
      | .done f => (match (Except.ok f : Result) with | .ok (.ret v) => Q v s' | .ok _ => False | .error e => E e s')
      | .again c' => c'.quiet = true ∧ codeAny (model prog w) A c' (fun r s' => match r with | .ok (.ret v) => Q v s' | .ok _ => False | .error e => E e s') s') E s) : wpAny (model prog w) A (call (.builtin id) args kw) Q E s := by
  refine wpAny_call (codeAny_call_builtin hp hb ?_)
  simp only [checkBuiltinCall, hk]
  cases hsig : Manifest.signature? id with
  | none => exact wpAny_pure hc
  | some sig =>
    simp only [argsOk, hsig] at ha
    have h2 : Bind.checkArgs id sig ⟨args, kw⟩ = pure () := ha
    show wpAny (model prog w) A.in1 (Bind.checkArgs id sig ⟨args, kw⟩) _ _ s
    rw [h2]; exact wpAny_pure hc
theorem args_sum_start (a : Value) (i : Int) (t : Tok) : argsOk "sum" ⟨[a], [(Str.ofString "start", .int i t)]⟩ := by unfold argsOk; kernel_rfl
/-- sum(xs, start=0), xs a list of ints -/
theorem sum_start {a : Addr} {its : List Value} {val : Nat → Int} {tz : Tok} {Q : Value → Shared → Prop} (k : Wk A s.heap l) (hl : s.heap.IsList a its.toArray) (hv : ∀ (i : Nat) v, its[i]? = some v → ∃ t, v = .int (val i) t)
    (h : ∀ h' tk t', (∀ b o, s.heap.get? b = some o → h'.get? b = some o) → Q (.int (preSum val its.length) t') { s with heap := h', toks := tk }) : wpAny (model prog w) A (call (.builtin "sum") [.ref a] [(Str.ofString "start", .int 0 tz)]) Q E s := by
  refine call_tree_kw PySem.F.kind_sum PySem.F.plain_sum PySem.F.entry_sum (args_sum_start _ _ _) ?_
  unfold Builtin.«sum»
  simp only [List.length_cons, List.length_nil]
  rw [if_neg (by decide)]
  refine wpAny_bind (wpAny_of_eq (show Builtin.Builtins.bindParams "sum" ["start"] 0 ⟨[], [(Str.ofString "start", .int 0 tz)]⟩ = pure [some (.int 0 tz)] from by first | rfl | kernel_rfl) ?_)
  refine wpAny_bind (iter_any hl fun s₂ e2 st hne => ?_)
  subst e2
  refine wpAny_bind (wpAny_rule ?_)
  refine wpAny_bind (wpAny_mkInt (wpAny_bind (wpAny_pure ?_)))
  dsimp only
  simp only [List.forIn_cons, List.forIn_nil]
  refine wpAny_bind (wpAny_bind (wpAny_bind (wpAny_isInstance (T := "int") (b := false) (typeIs_int _ _ _) PySem.sub_int_str ?_)))
  simp only [Bool.false_eq_true, if_false]
  refine wpAny_pure (wpAny_bind (wpAny_bind (wpAny_isInstance (T := "int") (b := false) (typeIs_int _ _ _) PySem.sub_int_bytes ?_)))
  simp only [Bool.false_eq_true, if_false]
  refine wpAny_pure (wpAny_bind (wpAny_bind (wpAny_isInstance (T := "int") (b := false) (typeIs_int _ _ _) PySem.sub_int_bytearray ?_)))
  simp only [Bool.false_eq_true, if_false]
  refine wpAny_pure (wpAny_pure ?_)
  refine wpAny_bind (wpAny_newObj_type ?_)
  have hI : ∀ p ∈ l, p.1 ≠ s.heap.objs.size := fun p hp => Nat.ne_of_lt (Heap.lt_size (k.i p hp))
  have ht := Heap.size_push s.heap { cls := .type "list_iterator", data := .fields #[.ref a, .int 0 0] }
  have W := (walkW_list (prog := prog) (w := w) (A := A.in1) k.c k.d s.heap.objs.size a hne hI its.toArray).toS
  have al : a < s.heap.objs.size := by obtain ⟨o, e, _⟩ := hl; exact Heap.lt_size e
  have hSf : (s.heap.push { cls := .type "list_iterator", data := .fields #[.ref a, .int 0 0] }).objs.size ∉ s.heap.objs.size :: a :: chA l := by
    rw [ht]
    have big : ∀ b, b ∈ s.heap.objs.size :: a :: chA l → b < s.heap.objs.size + 1 := fun b hb => by
      rcases List.mem_cons.mp hb with z | hb
      · rw [z]; exact Nat.lt_succ_self _
      · rcases List.mem_cons.mp hb with z | hb
        · rw [z]; exact Nat.lt_succ_of_lt al
        · obtain ⟨p, hp, e⟩ := List.mem_map.mp hb
          rw [← e]; exact Nat.lt_succ_of_lt (Heap.lt_size (k.i p hp))
    exact fun hm => Nat.lt_irrefl _ (big _ hm)
  refine wpAny_pure ⟨plainId_quiet PySem.F.plain_sum_loop _, codeAny_sum_loopAnyS W val (fun i v e => hv i v (by simpa using e)) _ hSf its.length 0 _ _ 0 0 (.inl rfl) (by simp) (Nat.zero_le _)
    ⟨st.1.at fun o e => Heap.get?_push_of_some _ e, st.2.at fun o e => Heap.get?_push_of_some _ e, fun p hp => Heap.get?_push_of_some _ (Heap.get?_push_of_some _ (k.i p hp))⟩ (Heap.get?_push_size _ rfl) fun s' t' hm => ?_⟩
  obtain ⟨h', g', d', tk', os'⟩ := s'
  have eg : g' = s.gens := hm.gens
  have ed : d' = s.drawn := hm.drawn
  have eo : os' = s.os := hm.os
  subst eg; subst ed; subst eo
  have hsz : its.toArray.size = its.length := by simp
  rw [hsz]
  refine h h' tk' t' fun b o e => hm.heap b o (fun hb => ?_) (Heap.get?_push_of_some _ (Heap.get?_push_of_some _ e))
  have hlt := Heap.lt_size e
  rcases List.mem_cons.mp hb with z | z
  · rw [z, ht] at hlt
    exact absurd hlt (Nat.not_lt_of_le (Nat.le_succ _))
  · rw [List.mem_singleton.mp z] at hlt
    exact Nat.lt_irrefl _ hlt
end
end Pw
end
section
set_option linter.all false
set_option maxRecDepth 100000
set_option maxHeartbeats 2000000
/-! Warm 5: the walk's rules there: all, sum, a, b = .., for, comprehensions. -/
namespace Pw
open PySem PySem.Spec PyProof.Rows L2 HotX
section
variable {X : Cx}
def rAllT (K : Fg) : List V → Hp → VK → Prop := fun vs H Q => ∃ (a : Addr) (bs : List Bool), vs = [V.ref a] ∧ SqT K H a (bs.map V.bl) ∧ Q (.bl (bs.all id)) H
theorem cr_allT (hc : WarmC X) : CallR X (.builtin "all") (rAllT X.K) := by
  intro pins s σ H vs us Q I r h
  obtain ⟨a, bs, rfl, hs, q⟩ := h
  obtain ⟨its, rv, ht, _⟩ := I.tuple hs
  obtain ⟨l, k, off⟩ := hc.at I
  rw [Vals.ref1 r]
  have hb := rv.bls
  have hne : a ≠ s.heap.objs.size := by obtain ⟨o, e, _⟩ := ht; exact Nat.ne_of_lt (Heap.lt_size e)
  have hT : s.heap.IsTuple a its.toArray := ht
  refine call_all_walk (wpAny_pyIter_tuple hT ?_)
  refine ⟨_, _, _, _, _, _, _, rfl, walkW_tuple (A := X.A.in1) k.c k.d s.heap.objs.size a hne (fun p hp => Nat.ne_of_lt (Heap.lt_size (k.i p hp))) its.toArray, ⟨⟨_, Heap.get?_push_size _ rfl, rfl, rfl⟩, ?_, fun p hp => Heap.get?_push_of_some _ (k.i p hp)⟩, truth_bools hb, fun h' tk hk => ?_⟩
  · obtain ⟨o, e, r⟩ := ht
    exact ⟨o, Heap.get?_push_of_some _ e, r⟩
  · refine ⟨.bl _, H, I.kept fun b o eo => hk b o (fun hmem => ?_) (Heap.get?_push_of_some _ eo), ?_, q⟩
    · exact absurd (List.mem_singleton.mp hmem ▸ Heap.lt_size eo) (Nat.lt_irrefl _)
    · show Value.bool _ = Value.bool _
      rw [← L2.all_range, hb, List.size_toArray, List.length_map]
theorem preSum_nat (ns : List Int) : preSum (fun i => ns.getD i 0) ns.length = ns.sum := by
  have key : ∀ j, j ≤ ns.length → preSum (fun i => ns.getD i 0) j = (ns.take j).sum := by
    intro j
    induction j with
    | zero => intro _; simp [preSum]
    | succ j ih =>
      intro hj
      have e : ns[j]? = some ns[j] := List.getElem?_eq_getElem hj
      show preSum (fun i => ns.getD i 0) j + ns.getD j 0 = _
      rw [ih (Nat.le_of_lt hj), List.take_add_one, e, List.getD_eq_getElem?_getD, e]
      simp only [Option.toList_some, Option.getD_some, List.sum_append_int, List.sum_cons, List.sum_nil, Int.add_zero]
  rw [key _ (Nat.le_refl _), List.take_length]
def rSum0 (K : Fg) : List V → List V → Hp → VK → Prop := fun vs zs H Q => ∃ (a : Addr) (ns : List Int), vs = [V.ref a] ∧ zs = [.int 0] ∧ SqL K H a (ns.map V.int) ∧ Q (.int ns.sum) H
theorem cr_sum0 (hc : WarmC X) : CallRK X (.builtin "sum") ["start"] (rSum0 X.K) := by
  intro pins s σ H xs zs us ws Q I r1 r2 h
  obtain ⟨a, ns, rfl, rfl, hs, q⟩ := h
  obtain ⟨its, rv, hl, _⟩ := I.list hs
  obtain ⟨l, k, off⟩ := hc.at I
  rw [Vals.ref1 r1]
  cases r2 with
  | cons r2 rr =>
    cases rr
    obtain ⟨t, rfl⟩ := r2
    have hln : its.length = ns.length := by rw [← rv.length, List.length_map]
    refine sum_start (val := fun i => ns.getD i 0) k hl.isList (fun i v e => ?_) fun h' tk t' hk => ?_
    · obtain ⟨x, hx, rx⟩ : ∃ x, (ns.map V.int)[i]? = some x ∧ RelV x v := by
        have hi : i < ns.length := by rw [← hln]; exact (List.getElem?_eq_some_iff.mp e).1
        obtain ⟨u, hu, ru⟩ := rv.get (i := i) (x := V.int ns[i]) (by rw [List.getElem?_map, List.getElem?_eq_getElem hi]; rfl)
        rw [e] at hu
        cases hu
        exact ⟨_, by rw [List.getElem?_map, List.getElem?_eq_getElem hi]; rfl, ru⟩
      rw [List.getElem?_map] at hx
      obtain ⟨n, hn, rfl⟩ := Option.map_eq_some_iff.mp hx
      obtain ⟨t2, rfl⟩ := rx
      exact ⟨t2, by rw [List.getD_eq_getElem?_getD, hn]; rfl⟩
    · refine ⟨.int _, H, I.kept hk, ⟨_, rfl⟩, ?_⟩
      rw [hln, preSum_nat]
      exact q
theorem pg_tupW {es : List Expr} {k : Nat} {t : TGs} {n : Nat} {pos : Pos} (hc : WarmC X) (h : PGs X es t) (hn : (assignEach es X.env).length = n := by rfl) (hst : (assignEach es X.env).findIdx? (·.1) = none := by rfl) : PG X (.Tuple es k pos) (gTup X.K n t) := by
  refine ⟨fun pins s σ H v u Q I r hw => ?_⟩
  obtain ⟨a, xs, e1, hq, hl, hw⟩ := hw
  subst e1
  cases r
  obtain ⟨its, rv, ht, hz⟩ := I.tuple hq
  obtain ⟨l, k, off⟩ := hc.at I
  have hsz : (assignEach es X.env).length = its.toArray.size := by rw [hn, ← hl, rv.length, List.size_toArray]
  have hlt : a ≠ s.heap.objs.size := by obtain ⟨o, e, _⟩ := ht; exact Nat.ne_of_lt (Heap.lt_size e)
  have hI : ∀ p ∈ l, p.1 ≠ s.heap.objs.size := fun p hp => Nat.ne_of_lt (Heap.lt_size (k.i p hp))
  rw [assign_Tuple]
  refine wpAny_bind (wpAny_standAt ?_)
  unfold unpack
  rw [hsz, hst]
  refine wpAny_bind (wpAny_holding ?_)
  unfold unpackItems
  refine wpAny_bind ?_
  unfold notIterableAtAll
  refine wpAny_bind (wpAny_specialOf ht.typeIs slot_tuple_iter.lookup (wpAny_pure ?_))
  simp only [Bool.false_eq_true, if_false]
  refine wpAny_bind (wpAny_holding (iter_tuple ht ?_))
  refine wpAny_bind (wpAny_holding (draw_tuple hlt its.toArray.size 0 _ _ ⟨_, Heap.get?_push_size _ rfl, rfl, rfl⟩ (ht.push _) (by omega) fun h₁ hit₁ hs₁ => ?_))
  rw [List.drop_zero, show its.toArray.toList.take its.toArray.size = its from by simp, if_neg (by simp)]
  have ht₁ : IsTup h₁ a its.toArray := (ht.push _).extBut hs₁.extBut hlt
  refine wpAny_bind (wpAny_holding (tuple_endW (l := l) ((k.keep fun b o e => Heap.get?_push_of_some _ e).but hI hs₁) hI hit₁ ht₁ (by simp) fun h₂ he₂ => ?_))
  simp only [Option.isSome_none, Bool.false_eq_true, if_false]
  refine wpAny_pure ?_
  have J : Inv X pins σ H { s with heap := h₂ } := I.kept (t' := s.toks) fun b o e => he₂ b o (Nat.ne_of_lt (Heap.lt_size e)) (hs₁.extBut b o (Nat.ne_of_lt (Heap.lt_size e)) (Heap.get?_push_of_some _ e))
  exact h.run pins _ σ H xs _ Q J rv hw
end
end Pw
end
section
set_option linter.all false
set_option maxRecDepth 100000
set_option maxHeartbeats 2000000
/-! Warm 6: for, comprehensions. -/
namespace Pw
open PySem PySem.Spec PyProof.Rows L2
section
variable {X : Cx}
theorem ps_forW {tg iter : Expr} {body : List Stmt} {wi : TI} {g : TG} {tb : TS} {pos : Pos} (hp : PassesOwn (model X.prog X.w) X.A X.env X.xe) (hc : WarmC X) (hi : PIW X tg iter wi) (hg : PG X tg g) (hb : PSs X body tb)
    (hs : ∀ x, foldedSetIterable iter X.env x = pure x := by intro _; rfl) : PS X (.For tg iter body [] pos) (tFor wi g tb) := by
  refine ⟨fun pins s σ H D I h => wpAny_For (thn (hi.run pins s σ H _ I h) fun v s1 h1 => thn h1 fun itv s2 h2 => ?_) hs⟩
  obtain ⟨it, fp, tn, J, HA, e, IA, T, stA, fA, W, ⟨m0, w0⟩, turn⟩ := h2
  subst e
  have off : ∀ {H' : Hp}, (∀ b ∈ fp, H' b = none) → ∀ b ∈ fp, FpOk X pins H' b := fun hn b hb => ⟨hn b hb, (fA b hb).2⟩
  refine codeAny_forLoop_any (fun n s' => ∃ i σ' H', Inv X pins σ' H' s' ∧ tn i s'.heap ∧ (∀ b ∈ fp, H' b = none) ∧ W i n σ' H') (fun n sB hB => ?_) m0 ⟨0, σ, HA, IA, stA, fun b hb => (fA b hb).1, w0⟩
  obtain ⟨i, σB, HB, IB, stB, frB, wB⟩ := hB
  rcases turn i n σB HB wB with ⟨stop, qn⟩ | ⟨go, N, hN, step⟩
  · exact wpAny_passesOwn hp (thn (T.done X rfl rfl rfl hc i pins sB σB HB X.xe IB (off frB) stB stop) fun r sC ⟨hr, IC⟩ => by
      subst hr
      exact wpAny_execs_nil ⟨σB, HB, IC, qn⟩)
  · refine wpAny_passesOwn hp (thn (T.item X rfl rfl rfl i pins sB σB HB X.xe IB (off frB) stB go) fun r sC ⟨u, hr, hC⟩ => ?_)
    subst hr
    refine wpAny_passesOwn hp (thn hC fun _ sD ⟨x, HD, ID, rD, yD, stD, frD⟩ => ?_)
    have JD := ID.pinned (off frD) (T.obj _ _ stD)
    refine wpAny_passesOwn hp (thn (hg.run _ sD σB HD x u _ JD rD (step x HD yD)) fun _ sE ⟨σE, HE, IE, qE⟩ => ?_)
    refine wpAny_passesOwn hp (thn (hb.run _ sE σE HE _ IE qE) fun f sF qF => ?_)
    have again : ∀ {σF : LSt} {HF : Hp}, Inv X (pins ++ pinsAt fp sD.heap) σF HF sF → N σF HF → ∃ m, m < n ∧ ∃ i σ' H', Inv X pins σ' H' sF ∧ tn i sF.heap ∧ (∀ b ∈ fp, H' b = none) ∧ W i m σ' H' := fun {σF HF} IF nF => by
      obtain ⟨m', hm, wF⟩ := hN σF HF nF
      have pin : ∀ b ∈ fp, ∀ o, sD.heap.get? b = some o → sF.heap.get? b = some o ∧ HF b = none := fun b hb o e =>
        let z := IF.pin (b, o) (List.mem_append_right _ (List.mem_append_right _ (mem_pinsAt hb e))); ⟨z.1, z.2.1⟩
      refine ⟨m', hm, i + 1, σF, HF, IF.unpinned, T.keep _ _ _ stD fun b hb o e => (pin b hb o e).1, fun b hb => ?_, wF⟩
      obtain ⟨o, e, d⟩ := T.obj _ _ stD b hb
      exact (pin b hb o e).2
    cases f with
    | next => obtain ⟨σF, HF, IF, nF⟩ := qF; exact again IF nF
    | cont => obtain ⟨σF, HF, IF, nF⟩ := qF; exact again IF nF
    | brk => obtain ⟨σF, HF, IF, qF⟩ := qF; exact ⟨σF, HF, IF.unpinned, qF⟩
    | ret v => obtain ⟨xF, σF, HF, IF, rF, qF⟩ := qF; exact ⟨xF, σF, HF, IF.unpinned, rF, qF⟩
theorem lcW {elt tg iter : Expr} {ifs : List Expr} {scope : Scope} {own : List (Str × Nat)} {pos : Pos} {wi : TI} {g : TG} {tt : TT} {te : TE} (hc : WarmC X) (hN : X.N.Nodup) (hi : PIW X tg iter wi) (ok : BlkOk X.N X.env.scope scope own)
    (hg : ∀ (s : Shared) (H : Hp) (C : Addr) (cl : List (Str × Addr)) (fp : List Addr), WarmC (X.blk s H scope (compEnvC scope cl C X.env) fp) → PG (X.blk s H scope (compEnvC scope cl C X.env) fp) tg g)
    (ht : ∀ (s : Shared) (H : Hp) (C : Addr) (cl : List (Str × Addr)) (fp : List Addr), WarmC (X.blk s H scope (compEnvC scope cl C X.env) fp) → PTs (X.blk s H scope (compEnvC scope cl C X.env) fp) ifs tt)
    (he : ∀ (s : Shared) (H : Hp) (C : Addr) (cl : List (Str × Addr)) (fp : List Addr), WarmC (X.blk s H scope (compEnvC scope cl C X.env) fp) → PE (X.blk s H scope (compEnvC scope cl C X.env) fp) elt te) (hs : ∀ x, foldedSetIterable iter X.env x = pure x := by intro _; rfl) :
    PE X (.ListComp elt [⟨tg, iter, ifs, 0⟩] scope pos) (tLc wi g tt te (own.map (·.2))) := by
  refine ⟨fun pins s σ H Q I h => ?_⟩
  rw [eval_ListComp]
  have hfree : ∀ y ∈ scope.names, y.2 = .free → ∃ c, X.env.cells.lookup y.1 = some c := fun y hy e => (ok.free y hy e).elim (fun k => I.ok.has _ (.inl k)) fun k => I.ok.has _ (.inr k)
  refine wpAny_comprehension_free (use := none) rfl hs (closure_ok hfree) ok.kind (fun y hy e => by rw [ok.uniq y hy, e]) (thn (hi.run pins s σ H _ I h) fun xv s1 hx => thn hx fun itv s2 h2 => ?_)
  obtain ⟨it, fp, tn, J, HA, e, IA, T, stA, fA, q⟩ := h2
  subst e
  refine wpAny_newObj_type (newEnv_comp ?_) (by show 0 ≤ sizeLine; decide)
  generalize hD : s2.heap.objs.size = D
  have hDn : HA D = none := IA.hok.fresh (Nat.le_of_eq hD)
  obtain ⟨W, ⟨m0, w0⟩, turn⟩ := q D hDn
  generalize hsB : ({ s2 with heap := s2.heap.push { cls := .type "list", data := .seq ([] : List Value).toArray } } : Shared) = sB
  have IB : Inv X pins σ (upd HA D (.lst [])) sB := by
    rw [← hsB]
    refine IA.laid (t' := s2.toks) (fun b o e => Heap.get?_push_of_some _ e) (Nat.le_of_eq hD) ⟨Nat.zero_le _, [], 0, .nil, ?_⟩
    rw [← hD]; exact Heap.get?_push_size _ rfl
  have hB : sB.heap = s2.heap.push { cls := .type "list", data := .seq ([] : List Value).toArray } := by rw [← hsB]
  have fB : ∀ b ∈ fp, FpOk X pins (upd HA D (.lst [])) b ∧ b < sB.heap.objs.size := fun b hb => by
    obtain ⟨o, e, _⟩ := T.obj _ _ stA b hb
    have hlt := Heap.lt_size e
    refine ⟨⟨?_, (fA b hb).2⟩, by rw [hB, Heap.size_push]; exact Nat.lt_succ_of_lt hlt⟩
    rw [upd_ne (by rw [← hD]; exact Nat.ne_of_lt hlt)]; exact (fA b hb).1
  have stB : tn 0 sB.heap := T.keep _ _ _ stA fun b _ o e => by rw [hB]; exact Heap.get?_push_of_some _ e
  have IC := block_start IB ok hN fB
  have wc := fun env => hc.blk IB (scope := scope) (env := env) (fun b hb => (fB b hb).1)
  have pg := hg sB (upd HA D (.lst [])) sB.heap.objs.size (cellsFrom (sB.heap.objs.size + 1) scope.names (cloFrom X.env.cells scope.names [])) fp (wc _)
  have pt := ht sB (upd HA D (.lst [])) sB.heap.objs.size (cellsFrom (sB.heap.objs.size + 1) scope.names (cloFrom X.env.cells scope.names [])) fp (wc _)
  have pe := he sB (upd HA D (.lst [])) sB.heap.objs.size (cellsFrom (sB.heap.objs.size + 1) scope.names (cloFrom X.env.cells scope.names [])) fp (wc _)
  have nfp : ∀ b ∈ fp, (upd HA D (.lst [])) b = none := fun b hb => (fB b hb).1.1
  have wb := wc (compEnvC scope (cellsFrom (sB.heap.objs.size + 1) scope.names (cloFrom X.env.cells scope.names [])) sB.heap.objs.size X.env)
  show codeAny _ _ (.compStart (.ListComp elt [⟨tg, iter, ifs, 0⟩] scope pos) 0 (.ref it) (.ref D) (compEnvC scope (cellsFrom (sB.heap.objs.size + 1) scope.names (cloFrom X.env.cells scope.names [])) sB.heap.objs.size X.env)) (compPost (model X.prog X.w) X.A X.xe none (EP X pins σ Q) (.ref D) sB.heap.objs.size) { sB with heap := pushCells (sB.heap.push { cls := .type "dict", data := .dict #[] }) scope.names }
  generalize hce : compEnvC scope (cellsFrom (sB.heap.objs.size + 1) scope.names (cloFrom X.env.cells scope.names [])) sB.heap.objs.size X.env = ce at IC pg pt pe wb ⊢
  have cL : ce.locals = sB.heap.objs.size := by subst hce; rfl
  generalize hHB : upd HA D (.lst []) = HB at IB IC pg pt pe w0 nfp fB wb
  generalize hsC : ({ sB with heap := pushCells (sB.heap.push { cls := .type "dict", data := .dict #[] }) scope.names } : Shared) = sC at IC ⊢
  have stC : tn 0 sC.heap := T.keep _ _ _ stB fun b _ o e => by rw [← hsC]; exact pushCells_keeps _ _ _ _ (Heap.get?_push_of_some _ e)
  have off : ∀ {σ' : LSt} {H' : Hp} {s' : Shared}, Inv (X.blk sB HB scope ce fp) [] σ' H' s' → (∀ b ∈ fp, H' b = none) → ∀ b ∈ fp, FpOk (X.blk sB HB scope ce fp) [] H' b := fun {σ' H' s'} I' hn b hb =>
    ⟨hn b hb, (I'.ok.exf b hb).1, I'.ok.exfs b hb, .inl hb, fun x c e => (I'.ok.exf b hb).2 x c e, fun p hp => absurd (show p ∈ ([] : List (Addr × Obj)) ++ [] from hp) (by simp)⟩
  have loop : codeAny (model X.prog X.w) X.A (.compLoop (.ListComp elt [⟨tg, iter, ifs, 0⟩] scope pos) 0 (.ref it) (.ref D) ce) (compPost (model X.prog X.w) X.A X.xe none (EP X pins σ Q) (.ref D) sB.heap.objs.size) sC := by
    refine compLoop_any (fun n s' => ∃ i H', Inv (X.blk sB HB scope ce fp) [] (wipe σ (own.map (·.2))) H' s' ∧ tn i s'.heap ∧ (∀ b ∈ fp, H' b = none) ∧ W i n H') (fun n sD hD5 => ?_) m0 ⟨0, HB, IC, stC, nfp, w0⟩
    obtain ⟨i, HD, ID, stD, nD, wD⟩ := hD5
    rcases turn i n HD wD with ⟨stop, qq⟩ | ⟨go, Nx, hNx, step⟩
    · refine thnF (T.done (X.blk sB HB scope ce fp) rfl rfl rfl wb i [] sD _ HD (fun _ _ => False) ID (off ID nD) stD stop) fun r sE ⟨hr, IE⟩ => ?_
      subst hr
      have IF : Inv X pins σ HD sE := IB.call' (ch := fp) IE.os IE.base IE.hok IE.bare fun b hb => ⟨(fB b hb).1.2.2.2.1, (fB b hb).1.2.1, (fB b hb).1.2.2.2.2.1, (fB b hb).1.2.2.2.2.2⟩
      have nC : HD sB.heap.objs.size = none := by
        have z : HD ce.locals = none := IE.free
        rw [cL] at z; exact z
      obtain ⟨m, hn, _⟩ := IE.loc
      have hn : sE.heap.Ns ce.locals m := hn
      rw [cL] at hn
      refine ⟨m, hn, fun h'' sb => ?_⟩
      obtain ⟨f0, f1, f2, f3, f4, f5⟩ := IB.fpOk (H' := HD) (Nat.le_refl _) nC
      exact ⟨.ref D, HD, IF.turned (t' := sE.toks) (fun b o hb e => (sb.2 b hb).trans e) f0 f1 f3 f4 f5, rfl, qq⟩
    · refine thnF (T.item (X.blk sB HB scope ce fp) rfl rfl rfl i [] sD _ HD (fun _ _ => False) ID (off ID nD) stD go) fun r sE ⟨u, hr, hE⟩ => ?_
      subst hr
      refine thnF hE fun _ sF ⟨x, HF, IF, rF, yF, stF, nF⟩ => ?_
      have JF := IF.pinned (off IF nF) (T.obj _ _ stF)
      refine thnF (pg.run _ sF _ HF x u _ JF rF (step x HF yF)) fun _ sG ⟨σG, HG, IG, hwG, qG⟩ => ?_
      refine thnF (pt.run _ sG σG HG _ IG qG) fun b sK ⟨HK, IK, qK⟩ => ?_
      have fin : ∀ {s' : Shared} {H' : Hp}, Inv (X.blk sB HB scope ce fp) ([] ++ pinsAt fp sF.heap) σG H' s' → Nx H' → ∃ m, m < n ∧ ∃ i H', Inv (X.blk sB HB scope ce fp) [] (wipe σ (own.map (·.2))) H' s' ∧ tn i s'.heap ∧ (∀ b ∈ fp, H' b = none) ∧ W i m H' := fun {s' H'} I' nx => by
        obtain ⟨m', hm, w'⟩ := hNx H' nx
        have pin : ∀ b ∈ fp, ∀ o, sF.heap.get? b = some o → s'.heap.get? b = some o ∧ H' b = none := fun b hb o e =>
          let z := I'.pin (b, o) (List.mem_append_right _ (List.mem_append_right _ (mem_pinsAt hb e))); ⟨z.1, z.2.1⟩
        have hl : (wipe σ (own.map (·.2))).length = σG.length := by rw [← hwG, wipe_length]
        refine ⟨m', hm, i + 1, H', (I'.unpinned (pins := [])).weak hl (fun j v e => by rw [← hwG] at e; exact (wipe_some e).1), T.keep _ _ _ stF fun b hb o e => (pin b hb o e).1, fun b hb => ?_, w'⟩
        obtain ⟨o, e, _⟩ := T.obj _ _ stF b hb
        exact (pin b hb o e).2
      cases b with
      | false =>
        simp only [Bool.false_eq_true, if_false] at qK ⊢
        exact fin IK qK
      | true =>
        simp only [if_true] at qK ⊢
        refine thnF (pe.run _ sK σG HK _ IK qK) fun z sL ⟨yv, HL, IL, rL, acc, hDL, hzL, nx⟩ => ?_
        exact app_ok (X := X.blk sB HB scope ce fp) IL hDL hzL rL fun sM IM => fin IM nx
  exact codeAny_compStart_list loop (T.self X.A 0 _ _ _ stC loop)
end
end Pw
end
section
set_option linter.all false
set_option maxRecDepth 100000
set_option maxHeartbeats 2000000
/-! Warm 7: defs that may be called while exceptions are handled. -/
namespace Pw
open PySem PySem.Spec PyProof.Rows L2 L2H
/-- what a def promises, whatever is handled -/
structure FnW (P : Program) (w : World) (K : Fg) (mg : Str → Option Value) (base : Heap) (CX : CXT) (k : Nat) (f : Addr) (fd : FuncData) (ps : List Str) (sp : Sp) : Prop where
  len : ∀ vs H Q E, sp vs H Q E → vs.length = ps.length
  run : ∀ (A : Around) (outer : List Env) (s : Shared) (H : Hp) (args : Args) (us : List Value) (vs : List V) (Q : VK) (E : XK) (l : List (Addr × Obj)), RoomH k A → Chn l → Hdl A l → (∀ p ∈ l, PinOk outer H s p) → Env0 P w K mg base A outer s H → BindsTo s fd args (ps.zip us) → Vals vs us → sp vs H Q E →
    codeAny (model P w) A (.call (.ref f) args) (CR CX outer P w H s Q E) s
theorem FnW.mono {P : Program} {w : World} {K : Fg} {mg : Str → Option Value} {base : Heap} {CX : CXT} {j k : Nat} {f : Addr} {fd : FuncData} {ps : List Str} {sp : Sp} (F : FnW P w K mg base CX j f fd ps sp) (h : j ≤ k) : FnW P w K mg base CX k f fd ps sp :=
  ⟨F.len, fun A outer s H args us vs Q E l hr => F.run A outer s H args us vs Q E l (hr.mono h)⟩
theorem FnW.cold {P : Program} {w : World} {K : Fg} {mg : Str → Option Value} {base : Heap} {CX : CXT} {k : Nat} {f : Addr} {fd : FuncData} {ps : List Str} {sp : Sp} (F : FnW P w K mg base CX k f fd ps sp) : FnOk P w K mg base CX k f fd ps sp :=
  ⟨F.len, fun A outer s H args us vs Q E hr => F.run A outer s H args us vs Q E [] (roomH_of hr) ⟨(fun i p hp => by simp at hp), List.nodup_nil⟩ hr.hd fun p hp => nomatch hp⟩
def cxW (CX : CXT) (P : Program) (w : World) (K : Fg) (mg : Str → Option Value) (base : Heap) (N : List Str) (qual : Str) (scope : Scope) (f : Addr) (cd : Value) (A : Around) (outer : List Env) (s : Shared) (H : Hp) (E : XK) : Cx :=
  { cxOf CX P w K mg base N qual scope f cd A outer s H E with calm := false }
theorem inv_startW {CX : CXT} {P : Program} {w : World} {K : Fg} {mg : Str → Option Value} {base : Heap} {N ps : List Str} {qual : Str} {scope : Scope} {f : Addr} {cd : Value} {A : Around} {outer : List Env} {s s1 : Shared} {H : Hp} {E : XK} {us : List Value} {vs : List V}
    (S : FnScope N ps scope) (e0 : Env0 P w K mg base A outer s H) (hl : vs.length = ps.length) (r : Vals vs us)
    (x : InCallC s s.heap.objs.size (bindL (envOfC qual scope s.heap.objs.size f cd).kindOf (ps.zip us) fun _ => none) (cellsFrom (s.heap.objs.size + 1) scope.names []) (bindC (envOfC qual scope s.heap.objs.size f cd).kindOf (ps.zip us) fun _ => none) s1) :
    Inv (cxW CX P w K mg base N qual scope f cd A outer s H E) [] (start N vs) H s1 := by
  have e1 : Env0 P w K mg base { A with handled := none } outer s H := ⟨e0.frames, e0.mod, e0.bs, e0.bsz, e0.funs, e0.frf, e0.hok, e0.bare⟩
  have I := inv_start (CX := CX) (E := E) S rfl e1 hl r x
  have o := I.ok
  exact ⟨⟨o.mod, o.kind, o.glob, o.blt, o.above, o.inj, o.has, o.cab, fun z => Bool.noConfusion (show false = true from z), Around.frames_deeper e0.frames, o.stk, o.exf, o.bs, o.bsz, o.noex, o.exfs, o.funs, o.frf⟩, I.os, I.bare, I.base, I.loc, I.cell, I.free, I.freeC, I.pin, I.hok, I.len⟩
theorem warm_start {CX : CXT} {P : Program} {w : World} {K : Fg} {mg : Str → Option Value} {base : Heap} {N : List Str} {qual : Str} {scope : Scope} {f : Addr} {cd : Value} {A : Around} {outer : List Env} {s : Shared} {H : Hp} {E : XK} {l : List (Addr × Obj)} (c : Chn l) (d : Hdl A l) (h : ∀ p ∈ l, PinOk outer H s p) :
    WarmC (cxW CX P w K mg base N qual scope f cd A outer s H E) := ⟨l, c, d, fun p hp => .inr ⟨(h p hp).get, (h p hp).free, (h p hp).nofs, List.not_mem_nil, (h p hp).nocell⟩⟩
section
variable {P : Program} {w : World} {K : Fg} {mg : Str → Option Value} {base : Heap} {x qual : Str} {params : Arguments} {body : List Stmt} {scope : Scope} {dvs : List V} {kws : List (Str × V)} {f : Addr} {fd : FuncData}
theorem FunD.okW {CX : CXT} {N ps : List Str} {k : Nat} {sp : Sp} (F : FunD K x qual params body scope dvs kws f fd) (S : FnScope N ps scope) (len : ∀ vs H Q E, sp vs H Q E → vs.length = ps.length)
    (hbody : ∀ (cdv : Value) (A : Around) (outer : List Env) (s : Shared) (H : Hp) (vs : List V) (Q : VK) (E : XK), RoomH k (A.deeper (envOfC qual scope s.heap.objs.size f cdv)) → WarmC (cxW CX P w K mg base N qual scope f cdv A outer s H E) → sp vs H Q E →
      ∃ t, PSs (cxW CX P w K mg base N qual scope f cdv A outer s H E) body t ∧ t { nx := fun _ H' => Q .non H', rt := Q } (start N vs) H) : FnW P w K mg base CX (k + 1) f fd ps sp := by
  obtain ⟨oc, od, dV, kV, doc, pm, an, cdv, ct, osl, rfl, lk, hcd, _, _⟩ := F.ex
  refine ⟨len, fun A outer s H args us vs Q E l hr hc hd hpin e0 hb r hsp => ?_⟩
  have hl := len _ _ _ _ hsp
  have KX : K.In s.heap := e0.mod.kin.keeps fun b o e => (e0.bs b o e).1
  have lim : s.heap.NoLimit := e0.mod.nolimit.keeps fun b o e => (e0.bs b o e).1
  have kinds : ∀ y ∈ ps.zip us, scope.names.lookup y.1 = some .local ∨ (scope.names.lookup y.1 = some .cell ∧ ((cellsFrom (s.heap.objs.size + 1) scope.names []).lookup y.1).isSome = true) := fun ⟨n, v⟩ hy =>
    (S.par n (List.of_mem_zip hy).1).elim .inl fun q => .inr ⟨q, PySem.W.cellsFrom_some _ _ _ (.inl q)⟩
  refine codeAny_call_function hr.depth (KX _ _ lk) rfl S.co S.gen rfl (PySem.W.codeRec_of KX hcd) (hb _ _ _ _ (wpAny_newFunctionEnv_cells S.kind kinds fun env he s1 xx => ?_))
  subst he
  refine ⟨lim.keeps xx.toInCall.keep, codeAny_func ?_⟩
  obtain ⟨t, ht, hq⟩ := hbody cdv A outer s H vs Q E (hr.deeper _) (warm_start hc hd hpin) hsp
  have I := inv_startW (CX := CX) (E := E) S e0 hl r xx
  refine wpAny_mono (ht.run [] s1 _ H _ I hq) (fun fl s' hs => ?_) fun e s' hs => hs
  have fin : ∀ {σ' : LSt} {H' : Hp} {v : V} {u : Value}, Inv (cxW CX P w K mg base N qual scope f cdv A outer s H E) [] σ' H' s' → RelV v u → Q v H' → CE outer P w H s Q u s' := fun {σ' H' v u} J rv q => ⟨v, H', J.os, J.bare, J.base, J.hok, rv, q⟩
  cases fl with
  | ret u => obtain ⟨v, σ', H', J, rv, q⟩ := hs; exact fin J rv q
  | next => obtain ⟨σ', H', J, q⟩ := hs; exact fin (v := V.non) (u := Value.none) J rfl q
  | brk => obtain ⟨_, _, _, q⟩ := hs; exact False.elim q
  | cont => obtain ⟨_, _, _, q⟩ := hs; exact False.elim q
end
section
variable {X : Cx} {CX : CXT} {k : Nat} {f C : Addr} {fd : FuncData} {ps : List Str} {sp : Sp} {E : LSt → XK} {m : Str} {pos apos : Pos} {e o : Expr} {es : List Expr} {ta : TE} {t : TA}
theorem run_fnW {pins : List (Addr × Obj)} {σ : LSt} {H : Hp} {s : Shared} {Q : VK} {us : List Value} {vs : List V} (F : FnW X.prog X.w X.K X.mg X.base CX k f fd ps sp) (hr : RoomH k X.A) (hc : WarmC X) (hb : Binds X.K fd ps []) (hx : PassesAt CX X σ (E σ))
    (I : Inv X pins σ H s) (r : Vals vs us) (h : sp vs H Q (E σ)) : wpAny (model X.prog X.w) X.A (call (.ref f) us) (EP X pins σ Q) X.xe s := by
  obtain ⟨l, h1, h2, h3⟩ := hc
  have hl : us.length = ps.length := by rw [← r.length]; exact F.len _ _ _ _ h
  have b := hb s us I.kIn (by rw [List.append_nil]; exact hl)
  rw [List.append_nil] at b
  have pin : ∀ p ∈ l, PinOk X.stack H s p := fun p hp =>
    have z := (h3 p hp).at I
    ⟨z.1, z.2.1, fun hm => (List.mem_cons.mp (I.stkSub p.1 hm)).elim z.2.2.1 z.2.2.2.1, z.2.2.2.2⟩
  refine wpAny_call (codeAny_mono (F.run X.A X.stack s H ⟨us, []⟩ us vs Q (E σ) l hr h1 h2 pin I.env0 b r h) fun r s' hq => ?_)
  cases r with
  | error e => exact hx pins H s e s' I hq
  | ok fl =>
    cases fl with
    | ret u => exact I.after hq
    | next => exact False.elim hq
    | brk => exact False.elim hq
    | cont => exact False.elim hq
theorem pe_methW {pl : Sem Bool} (he : PE X o ta) (c : Cls X.K C) (hm : Meth X.K C m f) (F : FnW X.prog X.w X.K X.mg X.base CX k f fd ps sp) (hr : RoomH k X.A) (hc : WarmC X) (hb : Binds X.K fd ps []) (hx : ∀ σ, PassesAt CX X σ (E σ)) (ha : PA X (e :: es) t)
    (hst : starEach (e :: es) X.env = (false, eval e X.env) :: starEach es X.env := by rfl) (hpl : (backTo pos (starEach es X.env)).any (·.1) = false := by rfl)
    (ht : eval (.Call (.Attribute o m apos) (e :: es) [] pos) X.env = (do
      let ov ← eval o X.env
      standAt apos.atName
      let (f, first) ← holding [ov] (getMethod ov m pl)
      callWith pos f first (backTo pos (starEach (e :: es) X.env)) (backToKw pos (keywordEach [] X.env))) := by rfl) :
    PE X (.Call (.Attribute o m apos) (e :: es) [] pos) (tMethH C m sp E ta t) := by
  refine ⟨fun pins s σ H Q I h => PySem.W.methodCall_KW (pl := pl) (thn (he.run pins s σ H _ I h) fun u s1 ⟨x, H1, I1, rx, a, dx, fs, ex, ea, l, q⟩ => ?_) ht⟩
  subst ex
  obtain rfl : u = Value.ref a := rx
  refine getmeth_ok I1 ea c hm l ?_
  refine PySem.W.callWith_K (first := [.ref a]) (h₀ := X.base) I.ok.mod.kin hm.kp (thn (ha.run pos pins s1 σ H1 _ I1 q) fun us s2 ⟨vs, H2, I2, r, q2⟩ => ⟨I2.kIn, ?_⟩) hst hpl
  exact run_fnW (us := .ref a :: us) (vs := .ref a :: vs) F hr hc hb (hx σ) I2 (.cons rfl r) q2
end
end Pw
end
section
set_option linter.all false
set_option maxRecDepth 100000
set_option maxHeartbeats 2000000
/-! Warm 8: the memo dict by (tuple of bools, number), its KeyError, the try around it. -/
namespace Pw
open PySem PySem.Spec PyProof.Rows L2 L2H HotX
abbrev MK := List Bool × Nat
def kk (k : MK) : NestedKey := .tup [.tup (k.1.map fun b => .num (if b = true then 1 else 0)), .num k.2]
theorem num_inj : ∀ {l m : List Bool}, (l.map fun b => NestedKey.num (if b = true then 1 else 0)) = (m.map fun b => NestedKey.num (if b = true then 1 else 0)) → l = m
  | [], [], _ => rfl
  | [], _ :: _, h => by cases h
  | _ :: _, [], h => by cases h
  | x :: l, y :: m, h => by
    rw [List.map_cons, List.map_cons] at h
    injection h with h1 h2
    injection h1 with h1
    rw [num_inj h2]
    cases x <;> cases y <;> first | rfl | (simp at h1)
theorem kk_inj {a b : MK} (h : kk a = kk b) : a = b := by
  unfold kk at h
  injection h with h
  injection h with h1 h2
  injection h2 with h2 _
  injection h1 with h1
  injection h2 with h2
  refine Prod.ext ?_ (Int.ofNat.inj h2)
  exact num_inj h1
theorem depth_nums : ∀ l : List Bool, NestedKey.depthAll (l.map fun b => NestedKey.num (if b = true then 1 else 0)) = 0
  | [] => by simp [NestedKey.depthAll]
  | b :: l => by simp [NestedKey.depthAll, NestedKey.depth, depth_nums l]
theorem kk_depth (k : MK) : (kk k).depth ≤ 8 := by
  unfold kk
  simp [NestedKey.depth, NestedKey.depthAll, depth_nums]
/-- the tuple at d is (a tuple of bools, n) -/
def KeyAt (H : Hp) (d : Addr) (k : MK) : Prop := ∃ c, H d = some (.tup [.ref c, .int k.2]) ∧ H c = some (.tup (k.1.map V.bl))
theorem KeyAt.up {fs ex : List Addr} {H H' : Hp} {h h' : Heap} {d : Addr} {k : MK} (u : Un fs ex H H' h h') (x : KeyAt H d k) : KeyAt H' d k := let ⟨c, a, b⟩ := x; ⟨c, u.tups _ _ a, u.tups _ _ b⟩
abbrev NK (P : Program) (w : World) := nestedKind P w
structure KnH (P : Program) (w : World) (h : Heap) (a : Addr) (xs : List (NestedKey × Addr × Value)) : Prop where
  ex : ∃ o es ep, h.get? a = some o ∧ o.ExactDict ∧ o.data = .dict es ep ∧ es.toList = xs.map (entryOfKey (NK P w)) ∧ (xs.map (·.1)).Nodup
def KnO (P : Program) (w : World) (a : Addr) (xs : List (NestedKey × Addr × Value)) : HO := .ext fun h => KnH P w h a xs
theorem knO_ok {P : Program} {w : World} {H : Hp} {h : Heap} {a : Addr} {xs : List (NestedKey × Addr × Value)} (x : KnH P w h a xs) : ObjOk P w H h a (KnO P w a xs) := by
  obtain ⟨o, es, ep, ho, r⟩ := x.ex
  refine ⟨x, ⟨o, ho⟩, fun h1 h2 p k => ?_⟩
  obtain ⟨o', es', ep', ho', r'⟩ := (show KnH P w h1 a xs from p).ex
  exact ⟨o', es', ep', k o' ho', r'⟩
/-- the memo: each stored value is f's; L: the bools' number, N: the numbers' bound -/
structure Kn (P : Program) (w : World) (H : Hp) (a : Addr) (f : MK → Int) (L N : Nat) : Prop where
  ex : ∃ xs, H a = some (KnO P w a xs) ∧ ∀ x ∈ xs, ∃ k t, x.1 = kk k ∧ KeyAt H x.2.1 k ∧ x.2.2 = .int (f k) t ∧ k.1.length = L ∧ k.2 < N
  nosys : (a == sysModules) = false
theorem keyAt_is {X : Cx} {pins : List (Addr × Obj)} {σ : LSt} {H : Hp} {s : Shared} {d : Addr} {k : MK} (I : Inv X pins σ H s) (x : KeyAt H d k) : (NK X.prog X.w).is s.heap (kk k) d := by
  obtain ⟨c, h1, h2⟩ := x
  obtain ⟨i1, r1, ⟨o1, ho1, hc1, n1, hd1⟩, _⟩ := I.tuple (.of h1)
  obtain ⟨i2, r2, ⟨o2, ho2, hc2, n2, hd2⟩, _⟩ := I.tuple (.of h2)
  refine ⟨.tup ho1 hc1 hd1 ?_, kk_depth k⟩
  cases r1 with
  | cons r1 r =>
    cases r with
    | cons r3 r =>
      cases r
      cases r1
      obtain ⟨t, rfl⟩ := r3
      refine .cons (.tup ho2 hc2 hd2 ?_) (.cons (.int _ _) .nil)
      rw [r2.bls]
      show NestedAll s.heap _ (k.1.map Value.bool)
      generalize k.1 = l
      induction l with
      | nil => exact .nil
      | cons b l ih => exact .cons (.bool rfl) ih
theorem Kn.dict {X : Cx} {pins : List (Addr × Obj)} {σ : LSt} {H : Hp} {s : Shared} {a : Addr} {f : MK → Int} {L N : Nat} (I : Inv X pins σ H s) (x : Kn X.prog X.w H a f L N) :
    ∃ xs, H a = some (KnO X.prog X.w a xs) ∧ s.heap.DictOfH (NK X.prog X.w) a xs ∧ ∀ x ∈ xs, ∃ k t, x.1 = kk k ∧ KeyAt H x.2.1 k ∧ x.2.2 = .int (f k) t ∧ k.1.length = L ∧ k.2 < N := by
  obtain ⟨xs, e, h⟩ := x.ex
  obtain ⟨o, es, ep, ho, hx, hd, he, nd⟩ := (show KnH X.prog X.w s.heap a xs from (I.hok a _ e).1).ex
  refine ⟨xs, e, ⟨o, es, ep, ho, hx, hd, he, fun x hx => ?_, nd⟩, h⟩
  obtain ⟨k, t, e1, e2, _⟩ := h x hx
  rw [e1]; exact keyAt_is I e2
/-! ### its KeyError -/
def Zw (c : Value) : Obj → Prop := fun o => o.cls = .type "KeyError" ∧ ∀ vs : Array Value, o.data = .fields vs → vs[2]? = some c
theorem zw_steady (c : Value) : PXN.Steady1 (Zw c) := fun o v h => ⟨PXN.steady_cls o v h.1, by
  obtain ⟨h1, h2⟩ := h
  obtain ⟨cc, d, dt, sl⟩ := o
  cases dt with
  | fields vs0 =>
    intro vs e
    have e2 : vs0.setIfInBounds 1 v = vs := Data.fields.inj e
    have e3 : (vs0.setIfInBounds 1 v)[2]? = vs0[2]? := by
      first
      | exact Array.getElem?_setIfInBounds_ne (by decide)
      | simp [Array.getElem?_setIfInBounds]
    rw [← e2, e3]; exact h2 vs0 rfl
  | _ => exact fun vs e => nomatch e⟩
section
variable {prog : Program} {w : World} {A : Around} {E : Value → Shared → Prop} {s : Shared} {l : List (Addr × Obj)}
theorem missW {K : Type} [DecidableEq K] {knd : HeapKind prog w K} {d a : Addr} {k : K} {xs : List (K × Addr × Value)} {Q : Value → Shared → Prop} (hu : knd.room A.in1) (hkey : knd.is s.heap k a) (hd : (d == sysModules) = false) (hk : Wk A s.heap l) (hm : s.heap.DictOfH knd d xs)
    (hp : atKey xs k = none) (h : ∀ h' e tk, (∀ b o, s.heap.get? b = some o → h'.get? b = some o) → s.heap.objs.size ≤ e → (∃ oe vs, h'.get? e = some oe ∧ Zw (nxt l 0) oe ∧ oe.data = .fields vs ∧ vs[1]? = some .none) → E (.ref e) { s with heap := h', toks := tk }) :
    wpAny (model prog w) A (getItem (.ref d) (.ref a)) Q E s := by
  unfold getItem
  try with_reducible refine wpAny_holding ?_
  refine wpAny_bind (wpAny_sequenceKey hm.typeIs (by decide) ?_)
  refine wpAny_bind (wpAny_callSpecial?_slot (name := Str.ofString "__getitem__") hm.typeIs slot_dict_getitem (wpAny_call_entry slot_dict_getitem hm.typeIs entry_dict_getitem ?_ (args_dict_getitem _ _)))
  show wpAny (model prog w) _ (dictGet d (.ref a) >>= _) _ _ s
  refine wpAny_bind (wpAny_dictGet_heap hu hkey hm ?_)
  rw [hp]
  show wpAny (model prog w) _ (Builtin.Dict.missed d (.ref a) >>= _) _ _ _
  refine wpAny_bind (wpAny_missed_other hd ?_)
  refine wpAny_bind (wpAny_typeOf (s := { s with toks := s.toks + knd.draws k }) hm.typeIs ?_)
  show wpAny (model prog w) _ (if (Value.type "dict" != Value.type "dict") = true then _ else _) _ _ _
  rw [if_neg (by decide)]
  refine wpAny_bind (wpAny_rule ?_)
  refine wpAny_bind ?_
  unfold newExc newTuple
  refine wpAny_bind (wpAny_newObj_type ?_ (by size_fits))
  refine wpAny_bind (m := firstArgMember _ _) (wpAny_of_eq (a := Value.none) (by simp only [firstArgMember, plainExc_KeyError.first]; rfl) ?_)
  rw [plainExc_KeyError.own]
  refine wpAny_newObj_type ?_ (by size_fits)
  have old : ∀ b o, s.heap.get? b = some o → ∀ {x y : Obj}, ((s.heap.push x).push y).get? b = some o := fun b o e x y => Heap.get?_push_of_some _ (Heap.get?_push_of_some _ e)
  refine raiseNew_warm (l := l) hk.c (fun p hp => old _ _ (hk.i p hp)) hk.d (fun p hp => Nat.ne_of_lt (Heap.lt_size (Heap.get?_push_of_some _ (hk.i p hp)))) (Heap.get?_push_size _ rfl) rfl (by first | (simp; done) | (simp; omega) | (simp only [Array.size_append]; simp; omega)) (fun e => ?_) fun p r e => ?_
  · refine h _ _ _ (fun b o e => old b o e) (by simp [Heap.size_push]) ⟨_, _, Heap.get?_push_size _ rfl, ⟨rfl, fun vs e2 => ?_⟩, rfl, by simp⟩
    subst e
    rw [← Data.fields.inj e2]
    simp [nxt]
  · refine h _ _ _ (fun b o e => ?_) (by simp [Heap.size_push]) ⟨_, _, Heap.get?_update_self _ (Heap.get?_push_size _ rfl) rfl, ⟨rfl, fun vs e2 => ?_⟩, rfl, by simp⟩
    · rw [Heap.get?_update_other _ _ (Nat.ne_of_gt (Heap.lt_size (Heap.get?_push_of_some _ e)))]
      exact old b o e
    · subst e
      rw [← Data.fields.inj e2]
      simp [nxt]
end
section
variable {X : Cx}
/-- the memo's KeyError is in the air; sI: the state without it -/
def Fly (X : Cx) (W : LSt → Hp → Prop) (u : Value) (s' : Shared) : Prop :=
  ∃ (a : Addr) (oe : Obj) (vs : Array Value) (sI : Shared) (pins : List (Addr × Obj)) (σ : LSt) (H : Hp) (l : List (Addr × Obj)), u = .ref a ∧ Inv X pins σ H sI ∧ (∀ b o, sI.heap.get? b = some o → s'.heap.get? b = some o) ∧ sI.heap.get? a = none ∧ s'.heap.get? a = some oe ∧ Zw (nxt l 0) oe ∧ oe.data = .fields vs ∧ vs[1]? = some .none ∧
    H a = none ∧ s'.os = sI.os ∧ AllBare s'.gens ∧ Chn l ∧ Hdl X.A l ∧ (∀ p ∈ l, Held X p) ∧ W σ H
def TakesF (X : Cx) (W : LSt → Hp → Prop) : Prop := ∀ u s', Fly X W u s' → X.xe u s'
def tKnown (to ti : TE) (P : Program) (w : World) (W : LSt → Hp → Prop) : TE := fun σ H Q => to σ H fun o H1 => ti σ H1 fun k H2 => ∃ kn d f L N m, o = .ref kn ∧ k = .ref d ∧ Kn P w H2 kn f L N ∧ KeyAt H2 d m ∧ Q (.int (f m)) H2 ∧ W σ H2
theorem pe_known {W : LSt → Hp → Prop} {o i : Expr} {to ti : TE} {pos : Pos} (hc : WarmC X) (hu : X.A.units + 65 < cLine) (tk : TakesF X W) (ho : PE X o to) (hi : PE X i ti) (hs : NoSl i) : PE X (.Subscript o i pos) (tKnown to ti X.prog X.w W) := by
  refine ⟨fun pins s σ H Q I h => ?_⟩
  refine subD_of PySem.F.slot_dict_getitem.lookup hs (thn (ho.run pins s σ H _ I h) fun u s1 ⟨x, H1, I1, rx, q1⟩ => thn (hi.run pins s1 σ H1 _ I1 q1) fun iv s2 ⟨y, H2, I2, ry, kn, d, f, L, N, m, e1, e2, hk, hd, q2, q3⟩ => ?_)
  subst e1
  subst e2
  obtain rfl : u = Value.ref kn := rx
  obtain rfl : iv = Value.ref d := ry
  obtain ⟨xs, e, D, hx⟩ := hk.dict I2
  have hr : (NK X.prog X.w).room X.A.in1 := by
    show X.A.units + 1 + 8 < cLine
    omega
  refine ⟨D.typeIs, ?_⟩
  cases hp : atKey xs (kk m) with
  | some p =>
    refine wpAny_getItem_heap hr (keyAt_is I2 hd) D hp ⟨.int (f m), H2, I2.tok _, ?_, q2⟩
    unfold atKey at hp
    obtain ⟨x, hx2, rfl⟩ := Option.map_eq_some_iff.mp hp
    obtain ⟨k, t, e1, _, e3, _⟩ := hx x (List.mem_of_find?_eq_some hx2)
    have e4 : x.1 = kk m := by simpa using List.find?_some hx2
    rw [e3, kk_inj (e1.symm.trans e4)]
    exact ⟨t, rfl⟩
  | none =>
    obtain ⟨l, h1, h2, h3⟩ := id hc
    have wk : Wk X.A s2.heap l := ⟨h1, fun p hp => ((h3 p hp).at I2).1, h2⟩
    refine missW hr (keyAt_is I2 hd) hk.nosys wk D hp fun h' b tk' kp ne ⟨oe, vs, he, hz, hdd, h11⟩ => tk _ _ ?_
    exact ⟨b, oe, vs, s2, pins, σ, H2, l, rfl, I2, kp, Heap.get?_none_of_le ne, he, hz, hdd, h11, I2.hok.fresh ne, rfl, I2.bare, h1, h2, h3, q3⟩
end
end Pw
end
section
set_option linter.all false
set_option maxRecDepth 100000
set_option maxHeartbeats 2000000
/-! Warm 9: try: return memo[key] / except KeyError: suite; the memo made, stored into. -/
namespace Pw
open PySem PySem.Spec PyProof.Rows L2 L2H HotX
section
variable {X : Cx}
theorem WarmC.tr (c : WarmC X) {pn : List (Addr × Obj)} {xe : Value → Shared → Prop} (h : ∀ q ∈ X.pn, q ∈ pn) : WarmC (X.tr pn xe) := by
  obtain ⟨l, h1, h2, h3⟩ := c
  exact ⟨l, h1, h2, fun p hp => (h3 p hp).imp (h p) id⟩
/-- within the suite of an except clause -/
theorem WarmC.suite {l : List (Addr × Obj)} {a : Addr} {oe : Obj} {vs : Array Value} {pn : List (Addr × Obj)} {xe : Value → Shared → Prop} (h1 : Chn l) (h3 : ∀ p ∈ l, Held (X.tr pn xe) p) (hne : ∀ p ∈ l, p.1 ≠ a) (hd : oe.data = .fields vs) (h2 : vs[2]? = some (nxt l 0)) : WarmC (X.suite a ((a, oe) :: pn)) := by
  refine ⟨(a, oe) :: l, ⟨fun i p e => ?_, ?_⟩, rfl, fun p hm => ?_⟩
  · cases i with
    | zero =>
      obtain rfl : (a, oe) = p := by simpa using e
      exact ⟨vs, hd, by rw [h2]; rfl⟩
    | succ i =>
      obtain ⟨vs', d', e'⟩ := h1.link i p (by simpa using e)
      exact ⟨vs', d', by rw [e']; rfl⟩
  · rw [List.map_cons]
    refine List.nodup_cons.mpr ⟨fun hm => ?_, h1.nd⟩
    obtain ⟨p, hp, e⟩ := List.mem_map.mp hm
    exact hne p hp e
  · rcases List.mem_cons.mp hm with e | hm
    · rw [e]; exact .inl List.mem_cons_self
    · exact (h3 p hm).imp (fun z => List.mem_cons_of_mem _ z) id
theorem ps_tryF {x : Str} {body suite : List Stmt} {b₀ : Stmt} {np pos pos' : Pos} {tb : (LSt → Hp → Prop) → TS} {ts : TS} (hs : X.stack = X.env :: X.outer) (hf : X.env.frame = some X.env.locals) (hc : Names X x (.type "KeyError")) (hw : WarmC X)
    (hx : PySem.W.exmOne X.K (.type "KeyError") (.type "KeyError") = some true)
    (hb : ∀ (W : LSt → Hp → Prop) (pn : List (Addr × Obj)) (xe : Value → Shared → Prop), TakesF (X.tr pn xe) W → WarmC (X.tr pn xe) → PSs (X.tr pn xe) body (tb W))
    (hsu : ∀ (a : Addr) (oe : Obj) (pn : List (Addr × Obj)), WarmC (X.suite a ((a, oe) :: pn)) → PSs (X.suite a ((a, oe) :: pn)) (b₀ :: suite) ts) :
    PS X (.Try body [.ExceptHandler (some (.Name x np)) none (b₀ :: suite) pos'] [] [] pos) (fun D σ H => tb (fun σ' H' => ts D σ' H') D σ H) := by
  refine ⟨fun pins s σ H D I h => ?_⟩
  have ok := I.ok
  have hfr : X.A.frames = some (X.env :: X.outer) := by rw [ok.frames, hs]
  have sub : ∀ q ∈ X.pn, q ∈ X.pn ++ pins := fun q hq => List.mem_append_left _ hq
  refine wpAny_Try_except (wpAny_mono ((hb (fun σ' H' => ts D σ' H') (X.pn ++ pins) (fun e s₁ => wpAny (model X.prog X.w) X.A (noteFrame e X.env) (fun _ s₂ => wpAny (model X.prog X.w) X.A (setFlight e none) (fun _ s₃ =>
    wpAny (model X.prog X.w) X.A (handleBy e X.env [.ExceptHandler (some (.Name x np)) none (b₀ :: suite) pos']) (SP X pins D) X.xe s₃) X.xe s₂) X.xe s₁) (fun u s' xx => ?_) (hw.tr sub)).run [] s σ H D (I.toTry _) h) (fun f s1 hsp => ?_) (fun e s1 he => he))
  · obtain ⟨a, oe, vs, sI, pins', σ', H', l, rfl, J', kp, hne, he, hz, hd, h1, na, os, ag, c1, c2, c3, hw'⟩ := xx
    have J : Inv X pins σ' H' sI := J'.ofTry ok
    have hl : ∀ p ∈ l, p.1 ≠ a := fun p hp z => by
      have g := ((c3 p hp).at J').1
      rw [z, hne] at g; cases g
    -- the ground: the state without it, the frames hidden
    have nb : ∀ b o, sI.heap.get? b = some o → b ∉ frs X.stack → (PySem.W.hideAll sI.heap (frs X.stack)).get? b = some o := fun b o e hb => PySem.W.hideAll_get _ e hb
    have up : sI.heap.UpToSlots s'.heap := Heap.UpToSlots.of_keeps kp
    have gn : (PySem.W.hideAll sI.heap (frs X.stack)).get? a = none := by
      cases q : (PySem.W.hideAll sI.heap (frs X.stack)).get? a with
      | none => rfl
      | some o =>
        have z := PySem.W.of_hideAll _ q
        rw [hne] at z; cases z
    have ff : s'.heap.FunFrames (PySem.W.hideAll sI.heap (frs X.stack)) (X.env :: X.outer) := by
      rw [← hs]
      exact Heap.FunFrames.of_keeps (fun b o e _ => ⟨o, kp b o e, rfl⟩) (funFrames_none J.stack fun b hb => PySem.W.hideAll_none _ hb)
    show wpAny (model X.prog X.w) X.A (noteFrame (.ref a) X.env) _ _ _
    refine L2N.Sky.land (zw_steady (nxt l 0)) hfr hf (B := PySem.W.hideAll sI.heap (frs X.stack)) (.inl ⟨fun b o e => kp b o (PySem.W.of_hideAll _ e), gn, ff, oe, vs, he, hz, hd, h1⟩) fun h3 fl3 up3 => ?_
    have J3 : Inv X pins σ' H' { s' with heap := h3 } := J.landed nb fl3.1 (up.trans up3) os ag
    obtain ⟨oe3, vs3, he3, hz3, hd3⟩ := fl3.there
    have off : ∀ {h : Heap} {o : Obj} {vs : Array Value}, h.FunFrames (PySem.W.hideAll sI.heap (frs X.stack)) (X.env :: X.outer) → h.get? a = some o → o.data = .fields vs → a ∉ frs (X.env :: X.outer) := fun {h o vs} ff e dd hm => by
      obtain ⟨_, o', e', hnf⟩ := ff.mem hm
      rw [e] at e'; cases e'
      exact hnf _ dd
    have nfr := off fl3.2.2.1 he3 hd3
    have nL : a ≠ X.env.locals := fun z => nfr (List.mem_filterMap.mpr ⟨X.env, List.mem_cons_self, by rw [hf, z]⟩)
    have nF : a ∉ X.fs := fun hm => by
      obtain ⟨e, he, q⟩ := List.mem_filterMap.mp hm
      exact nfr (List.mem_filterMap.mpr ⟨e, List.mem_cons_of_mem _ he, q⟩)
    have S3 := J3.suite he3 hd3 na nL nF
    refine wpAny_handleBy_cons (codeAny_handlers_test ?_) (by intro q; cases q)
    have LT : PySem.W.Looks (model X.prog X.w) h3 (typeOf (.ref a)) (.type "KeyError") := fun A Q E s k q => wpAny_typeOf_ref (k _ _ he3) (by rw [hz3.1]; exact q)
    have LM := PySem.W.exm_one (M := model X.prog X.w) (J3.kIn) LT hx
    have test : ∀ {Q : Value → Shared → Prop} {E : Value → Shared → Prop}, Q (.type "KeyError") { s' with heap := h3 } → wpAny (model X.prog X.w) (X.A.mark (some (.ref a))) (eval (.Name x np) X.env) Q E { s' with heap := h3 } := fun {Q E} q => by
      obtain ⟨hg, hdbg, hm | ⟨hm, hv, hnn⟩⟩ := hc
      · exact ld_glob (X := X.suite a ((a, oe3) :: (X.pn ++ pins))) S3 hg hm q hdbg
      · exact ld_blt (X := X.suite a ((a, oe3) :: (X.pn ++ pins))) S3 hg hm hv q hnn hdbg
    refine test (LM.here ?_)
    refine codeAny_handlers_suite (HandSPX.lands_againZ fl3 fun h4 fl4 up4 => ?_)
    have J4 : Inv X pins σ' H' { s' with heap := h4 } := J.landed nb fl4.1 ((up.trans up3).trans up4) os ag
    obtain ⟨oe4, vs4, he4, hz4, hd4⟩ := fl4.there
    have S4 := J4.suite he4 hd4 na nL nF
    have wS : WarmC (X.suite a ((a, oe4) :: (X.pn ++ pins))) := WarmC.suite (X := X) c1 c3 hl hd4 (hz4.2 _ hd4)
    refine wpAny_mono ((hsu a oe4 (X.pn ++ pins) wS).run [] _ _ H' _ S4 hw') (fun f s6 hsp => ?_) (fun _ _ z => False.elim z)
    cases f with
    | next => obtain ⟨σ6, H6, S6, q6⟩ := hsp; exact ⟨_, _, S6.unsuite ok, q6⟩
    | brk => obtain ⟨σ6, H6, S6, q6⟩ := hsp; exact ⟨_, _, S6.unsuite ok, q6⟩
    | cont => obtain ⟨σ6, H6, S6, q6⟩ := hsp; exact ⟨_, _, S6.unsuite ok, q6⟩
    | ret u => obtain ⟨v6, σ6, H6, S6, r6, q6⟩ := hsp; exact ⟨_, _, _, S6.unsuite ok, r6, q6⟩
  · cases f with
    | next => obtain ⟨σ', H', J', q⟩ := hsp; exact wpAny_execs_nil ⟨σ', H', J'.ofTry ok, q⟩
    | brk => obtain ⟨σ', H', J', q⟩ := hsp; exact ⟨σ', H', J'.ofTry ok, q⟩
    | cont => obtain ⟨σ', H', J', q⟩ := hsp; exact ⟨σ', H', J'.ofTry ok, q⟩
    | ret u => obtain ⟨v, σ', H', J', r, q⟩ := hsp; exact ⟨v, σ', H', J'.ofTry ok, r, q⟩
/-- {} as a memo -/
def tNewKn (P : Program) (w : World) : TE := fun _ H Q => ∀ a, H a = none → (a == sysModules) = false → Q (.ref a) (upd H a (KnO P w a []))
theorem pe_newKn {pos : Pos} : PE X (.Dict [] [] pos) (tNewKn X.prog X.w) := ⟨fun pins s σ H Q I h => by
  have ns : (s.heap.objs.size == sysModules) = false := beq_eq_false_iff_ne.mpr (Nat.ne_of_gt I.big)
  refine wpAny_Dict_empty ⟨.ref s.heap.objs.size, _, I.laid (a := s.heap.objs.size) (o := KnO X.prog X.w s.heap.objs.size []) (t' := s.toks) (fun _ _ q => Heap.get?_push_of_some _ q) (Nat.le_refl _) (knO_ok ?_), rfl, h _ (I.hok.fresh (Nat.le_refl _)) ns⟩
  exact ⟨_, #[], 0, Heap.get?_push_size _ rfl, ⟨rfl, rfl, rfl⟩, rfl, rfl, List.nodup_nil⟩⟩
theorem kn_new {P : Program} {w : World} {H : Hp} {a : Addr} (f : MK → Int) (L N : Nat) (h : (a == sysModules) = false) : Kn P w (upd H a (KnO P w a [])) a f L N := ⟨⟨[], upd_same, fun x hx => nomatch hx⟩, h⟩
/-- all lists of so many bools -/
def bools : Nat → List (List Bool)
  | 0 => [[]]
  | n + 1 => (bools n).map (List.cons true) ++ (bools n).map (List.cons false)
theorem mem_bools : ∀ l : List Bool, l ∈ bools l.length
  | [] => List.mem_singleton.mpr rfl
  | b :: l => by
    have h := mem_bools l
    show b :: l ∈ (bools l.length).map (List.cons true) ++ (bools l.length).map (List.cons false)
    cases b
    · exact List.mem_append_right _ (List.mem_map.mpr ⟨l, h, rfl⟩)
    · exact List.mem_append_left _ (List.mem_map.mpr ⟨l, h, rfl⟩)
theorem bools_len : ∀ n, (bools n).length = 2 ^ n
  | 0 => rfl
  | n + 1 => by
    show ((bools n).map (List.cons true) ++ (bools n).map (List.cons false)).length = _
    rw [List.length_append, List.length_map, List.length_map, bools_len n, Nat.pow_succ]
    omega
def mks (L N : Nat) : List MK := (bools L).flatMap fun l => (List.range N).map fun n => (l, n)
theorem mks_len (L N : Nat) : (mks L N).length = 2 ^ L * N := by
  unfold mks
  rw [← bools_len]
  generalize bools L = bs
  induction bs with
  | nil => simp
  | cons b bs ih => rw [List.flatMap_cons, List.length_append, ih, List.length_map, List.length_range, List.length_cons, Nat.succ_mul, Nat.add_comm]
theorem mem_mks {k : MK} {N : Nat} (h : k.2 < N) : k ∈ mks k.1.length N := List.mem_flatMap.mpr ⟨k.1, mem_bools _, List.mem_map.mpr ⟨k.2, List.mem_range.mpr h, rfl⟩⟩

/-- memo[key] = f key -/
def rKnSet (P : Program) (w : World) : TSet := fun o i v H Q => ∃ kn d f L N m, o = .ref kn ∧ i = .ref d ∧ v = .int (f m) ∧ Kn P w H kn f L N ∧ KeyAt H d m ∧ m.1.length = L ∧ m.2 < N ∧ 2 ^ L * N ≤ sizeLine ∧ ∀ xs, Kn P w (upd H kn (KnO P w kn xs)) kn f L N → Q (upd H kn (KnO P w kn xs))
theorem set_known (hu : X.A.units + 65 < cLine) : PSet X (rKnSet X.prog X.w) := by
  intro pins s σ H o i v ov iv u Q I ro ri rv h
  obtain ⟨kn, d, f, L, N, m, rfl, rfl, rfl, hk, hd, hL, hN, hz, q⟩ := h
  cases ro
  cases ri
  obtain ⟨t, rfl⟩ := rv
  obtain ⟨xs, e, D, hx⟩ := hk.dict I
  have hr : (NK X.prog X.w).room X.A.in1 := by
    show X.A.units + 1 + 8 < cLine
    omega
  -- no more keys than there are
  have few : xs.length ≤ sizeLine := by
    have nd : (xs.map (·.1)).Nodup := by obtain ⟨_, _, _, _, _, _, _, _, nd⟩ := D; exact nd
    have h1 : (xs.map (·.1)).length ≤ ((mks L N).map kk).length := by
      refine nodup_len nd fun y hy => ?_
      obtain ⟨x, hxm, rfl⟩ := List.mem_map.mp hy
      obtain ⟨k, _, e1, _, _, e4, e5⟩ := hx x hxm
      rw [e1, ← e4]
      exact List.mem_map.mpr ⟨k, mem_mks e5, rfl⟩
    rw [List.length_map, List.length_map, mks_len] at h1
    exact Nat.le_trans h1 hz
  have dn : d ≠ kn := fun z => by
    obtain ⟨c, e1, _⟩ := hd
    rw [z, e] at e1
    cases e1
  have new : ∀ x ∈ storedH xs (kk m) d (.int (f m) t), ∃ k t, x.1 = kk k ∧ KeyAt H x.2.1 k ∧ x.2.2 = .int (f k) t ∧ k.1.length = L ∧ k.2 < N := by
    intro x hm
    unfold storedH at hm
    split at hm
    · obtain ⟨y, hy, rfl⟩ := List.mem_map.mp hm
      obtain ⟨k, t', e1, e2, e3, e4⟩ := hx y hy
      unfold putAt
      split
      · rename_i z
        have hkm : k = m := kk_inj (e1.symm.trans z)
        exact ⟨k, t, e1, e2, by rw [hkm], e4⟩
      · exact ⟨k, t', e1, e2, e3, e4⟩
    · rcases List.mem_append.mp hm with hm | hm
      · exact hx x hm
      · rw [List.mem_singleton.mp hm]
        exact ⟨m, t, rfl, hd, rfl, hL, hN⟩
  refine wpAny_setItem_heap (hsz := few) hr (keyAt_is I hd) D fun h' hm' hs' => ?_
  have ok : KnH X.prog X.w h' kn (storedH xs (kk m) d (.int (f m) t)) := by
    obtain ⟨o, es, ep, a1, a2, a3, a4, _, a6⟩ := hm'
    exact ⟨o, es, ep, a1, a2, a3, a4, a6⟩
  have keys : ∀ {c k}, KeyAt H c k → KeyAt (upd H kn (KnO X.prog X.w kn (storedH xs (kk m) d (.int (f m) t)))) c k := fun {c k} ⟨c', e1, e2⟩ =>
    ⟨c', by rw [upd_ne fun z => by rw [z, e] at e1; cases e1]; exact e1, by rw [upd_ne fun z => by rw [z, e] at e2; cases e2]; exact e2⟩
  obtain ⟨ob, es, ep, a1, _⟩ := hm'
  refine ⟨_, I.write (x := kn) (e := kn) (t' := s.toks + (NK X.prog X.w).draws (kk m)) (by rw [e]; trivial) (.inl rfl) (fun b o hb eo => (hs'.2 b hb).trans eo) ⟨ob, a1⟩ (knO_ok ok), q _ ⟨⟨_, upd_same, fun x hm => ?_⟩, hk.nosys⟩⟩
  obtain ⟨k, t', e1, e2, e3⟩ := new x hm
  exact ⟨k, t', e1, keys e2, e3⟩
end
end Pw
end
section
set_option linter.all false
set_option maxRecDepth 100000
set_option maxHeartbeats 2000000
/-! Rules 3: dicts by pairs of texts. -/
namespace Pw
open PySem PySem.Spec PyProof.Rows L2
instance : STO Bool := ⟨by decide, by decide, by decide⟩
instance ltSpotBools : DecidableLT (List (Spot × Bool)) := fun a b => List.decidableLT a b
def eBool : Enc Bool where
  e := .bool
  ok := fun _ => True
  dep := 0
  lay := fun a _ => by simp [PyData.canLay0]
  dle := fun a => by simp [PyData.depth]
  eqv := fun a b => by cases a <;> cases b <;> rfl
  ali := fun a b => by simp [PySem.W.alike]
  lt := fun a b => by cases a <;> cases b <;> first | rfl | decide +kernel
theorem At.bool {G : Hp} {v : V} {b : Bool} (h : At G eBool v b) : v = .bl b := by
  have h := h.1
  cases h; rfl
theorem At.of_bool {G : Hp} {b : Bool} : At G eBool (.bl b) b := ⟨.bl _, trivial⟩
def skey (s : Spot) : List Key := [.inr (tx s.1), .inr (tx s.2)]
theorem skey_inj {a b : Spot} (h : skey a = skey b) : a = b := by
  injection h with h1 h2
  injection h2 with h2 _
  injection h1 with h1
  injection h2 with h2
  exact Prod.ext (tx_inj h1) (tx_inj h2)
/-- the dict {s: v s for s in m} -/
abbrev sdct (m : List Spot) (v : Spot → V) : List (List Key × V) := m.map fun s => (skey s, v s)
theorem sdct_val (v : Spot → V) (s : Spot) : ∀ m : List Spot, valV (sdct m v) (skey s) = if s ∈ m then some (v s) else none
  | [] => rfl
  | t :: m => by
    by_cases e : t = s
    · subst e
      rw [sdct, List.map_cons, valV_pos rfl, if_pos List.mem_cons_self]
    · rw [sdct, List.map_cons, valV_neg (p := (skey t, v t)) fun z => e (skey_inj z)]
      have ih := sdct_val v s m
      rw [sdct] at ih
      rw [ih]
      by_cases h : s ∈ m
      · rw [if_pos h, if_pos (List.mem_cons_of_mem _ h)]
      · rw [if_neg h, if_neg fun z => (List.mem_cons.mp z).elim (fun z => e z.symm) h]
/-- a spot's tuple is its key -/
theorem At.key {G H : Hp} {v : V} {s : Spot} (h : At G eSpot v s) (g : Same G H) : ∃ b, v = .ref b ∧ H b = some (.tup ((skey s).map kV)) := by
  obtain ⟨t, e, h1, _⟩ := h.spot
  exact ⟨t, e, g _ _ h1⟩
theorem get_spot {G H : Hp} {a : Addr} {v : V} {s : Spot} {m : List Spot} {f : Spot → V} (e : H a = some (.dT (sdct m f))) (h : At G eSpot v s) (g : Same G H) : DGet H a v (if s ∈ m then some (f s) else none) := by
  obtain ⟨b, rfl, hb⟩ := h.key g
  rw [← sdct_val]
  exact .t e hb
section
variable {S : List Addr} {H : Hp}
/-- the pairs (spot, True) as they stand: spot, the pair's place, the spot's place -/
theorem pairs_at {G : Hp} : ∀ {l : List Spot} {xs : List V}, Ats G (ePair eSpot eBool) xs (l.map fun s => (s, true)) → ∃ T : List (Spot × Addr × Addr), l = T.map (·.1) ∧ xs = T.map (fun t => V.ref t.2.1) ∧ ∀ t ∈ T, G t.2.1 = some (.tup [.ref t.2.2, .bl true]) ∧ G t.2.2 = some (.tup ((skey t.1).map kV))
  | [], [], _ => ⟨[], rfl, rfl, fun t ht => nomatch ht⟩
  | [], _ :: _, h => by have := h.len; cases this
  | _ :: _, [], h => by have := h.len; cases this
  | s :: l, x :: xs, h => by
    obtain ⟨h1, h2⟩ := h
    cases h1 with
    | cons a c =>
      obtain ⟨p, y, z, rfl, hp, hy, hz⟩ := (show At G (ePair eSpot eBool) x (s, true) from ⟨a, h2 _ List.mem_cons_self⟩).pair
      obtain ⟨T, e1, e2, e3⟩ := pairs_at (l := l) (xs := xs) ⟨c, fun q hq => h2 q (List.mem_cons_of_mem _ hq)⟩
      obtain ⟨b, rfl, hb⟩ := hy.key (fun _ _ h => h)
      rw [hz.bool] at hp
      refine ⟨(s, p, b) :: T, by rw [e1]; rfl, by rw [e2]; rfl, fun t ht => ?_⟩
      rcases List.mem_cons.mp ht with e | ht
      · rw [e]; exact ⟨hp, hb⟩
      · exact e3 t ht
/-- the entries {s: True}, each with its key's place -/
abbrev encT (m : List (Spot × Addr)) : List (List Key × Addr × Value) := m.map fun p => (skey p.1, p.2, .bool true)
theorem atKey_encT (s : Spot) : ∀ m : List (Spot × Addr), (atKey (encT m) (skey s)).isSome = decide (s ∈ m.map (·.1))
  | [] => rfl
  | p :: m => by
    have ih := atKey_encT s m
    unfold atKey at ih ⊢
    rw [encT, List.map_cons, List.find?_cons]
    by_cases e : p.1 = s
    · simp [e]
    · have n : decide (skey p.1 = skey s) = false := decide_eq_false fun z => e (skey_inj z)
      simp only [n]
      rw [encT] at ih
      rw [ih]
      refine decide_eq_decide.mpr ?_
      rw [List.map_cons, List.mem_cons]
      exact ⟨.inr, fun h => h.elim (fun z => absurd z.symm e) id⟩
theorem put_same (k : List Key) : ∀ m : List (Spot × Addr), (encT m).map (putAt k (.bool true)) = encT m := fun m => by
  rw [encT, List.map_map]
  refine List.map_congr_left fun p _ => ?_
  show putAt k (.bool true) (skey p.1, p.2, .bool true) = _
  unfold putAt
  split <;> rfl
theorem stored_spots : ∀ (T m : List (Spot × Addr)), (m.map (·.1)).Nodup → ∃ m', storedAllH (encT m) (encT T) = encT m' ∧ (m'.map (·.1)).Nodup ∧ (∀ s, s ∈ m'.map (·.1) ↔ s ∈ m.map (·.1) ∨ s ∈ T.map (·.1)) ∧ (∀ p ∈ m', p ∈ m ∨ p ∈ T) ∧ m'.length ≤ m.length + T.length
  | [], m, nd => ⟨m, rfl, nd, fun s => by simp, fun p hp => .inl hp, Nat.le_refl _⟩
  | t :: T, m, nd => by
    have step : storedAllH (encT m) (encT (t :: T)) = storedAllH (storedH (encT m) (skey t.1) t.2 (.bool true)) (encT T) := rfl
    by_cases h : t.1 ∈ m.map (·.1)
    · have e : storedH (encT m) (skey t.1) t.2 (.bool true) = encT m := by
        unfold storedH
        rw [atKey_encT, if_pos (decide_eq_true h), put_same]
      obtain ⟨m', e1, e2, e3, e4, e5⟩ := stored_spots T m nd
      refine ⟨m', by rw [step, e, e1], e2, fun s => ?_, fun p hp => (e4 p hp).imp id (List.mem_cons_of_mem _), by rw [List.length_cons]; omega⟩
      rw [e3, List.map_cons, List.mem_cons]
      exact ⟨fun z => z.imp id .inr, fun z => z.elim .inl fun z => z.elim (fun z => .inl (by rw [z]; exact h)) .inr⟩
    · have e : storedH (encT m) (skey t.1) t.2 (.bool true) = encT (m ++ [t]) := by
        unfold storedH
        rw [atKey_encT, if_neg (by simpa using h), encT, encT, List.map_append]; rfl
      have nd2 : ((m ++ [t]).map (·.1)).Nodup := by
        rw [List.map_append]
        refine List.nodup_append.mpr ⟨nd, by simp, fun a ha b hb z => h ?_⟩
        rw [List.map_cons, List.map_nil, List.mem_singleton] at hb
        rw [← hb, ← z]; exact ha
      obtain ⟨m', e1, e2, e3, e4, e5⟩ := stored_spots T (m ++ [t]) nd2
      refine ⟨m', by rw [step, e, e1], e2, fun s => ?_, fun p hp => ?_, by rw [List.length_append] at e5; simp only [List.length_cons, List.length_nil] at e5 ⊢; omega⟩
      · rw [e3, List.map_append, List.mem_append, List.map_cons (l := T), List.mem_cons]
        simp [or_assoc]
      · rcases e4 p hp with z | z
        · rcases List.mem_append.mp z with z | z
          · exact .inl z
          · rw [List.mem_singleton.mp z]; exact .inr List.mem_cons_self
        · exact .inr (List.mem_cons_of_mem _ z)
end
section
variable {X : Cx}
/-- dict(xs), xs the pairs (spot, True) -/
def rDictT : List V → Hp → VK → Prop := fun vs H Q => ∃ (S : List Addr) (v : V) (l : List Spot), vs = [v] ∧ At (Hd S H) (eList (ePair eSpot eBool)) v (l.map fun s => (s, true)) ∧ ∀ p m, H p = none → m.Nodup → (∀ s, s ∈ m ↔ s ∈ l) → m.length ≤ l.length → Q (.ref p) (upd H p (.dT (sdct m fun _ => .bl true)))
theorem call_dictT (hc : X.calm = true) (hu : X.A.units + 65 < cLine) : CallR X (.type "dict") rDictT := by
  intro pins s σ H xs us Q I r h
  obtain ⟨S, v, l, rfl, hv, q⟩ := h
  obtain ⟨a, xs, rfl, ha, hx⟩ := hv.list
  obtain ⟨T, rfl, rfl, hT⟩ := pairs_at hx
  rw [Vals.ref1 r]
  obtain ⟨its, rv, pl, hz⟩ := I.list (.of (Hd_some ha).2)
  rw [List.length_map] at hz
  obtain ⟨o, n, ho, hc', hd, hdat⟩ := pl
  have ei : its = T.map fun t => Value.ref t.2.1 := by
    have e := refs_at (ps := T.map fun t => t.2.1) (us := its) (by rw [List.map_map]; exact rv)
    rw [e, List.map_map]; rfl
  have hlen : its.length = T.length := by rw [ei, List.length_map]
  have tup : ∀ t ∈ T, IsTup s.heap t.2.1 #[Value.ref t.2.2, .bool true] := fun t ht => by
    obtain ⟨i1, r1, h1, _⟩ := I.tuple (.of (hd_to _ _ (hT t ht).1))
    cases r1 with
    | cons r1 r2 =>
      cases r2 with
      | cons r2 r3 =>
        cases r3
        cases r1
        obtain rfl := r2
        exact h1
  have key : ∀ t ∈ T, (tupleKind (mixKind X.prog X.w)).is s.heap (skey t.1) t.2.2 := fun t ht => key_of I.hok (hd_to _ _ (hT t ht).2)
  let ps : List (Value × Value) := T.map fun t => (Value.ref t.2.2, .bool true)
  have items : PairItems s.heap its.toArray (fun j => (T.map fun t => t.2.1).getD j 0) ps := by
    refine ⟨by rw [List.size_toArray, hlen]; exact (List.length_map _).symm, fun j k v e => ?_⟩
    have e : (T.map fun t => (Value.ref t.2.2, Value.bool true))[j]? = some (k, v) := e
    rw [List.getElem?_map] at e
    obtain ⟨t, ht, e⟩ := Option.map_eq_some_iff.mp e
    have hD : (T.map fun t => t.2.1).getD j 0 = t.2.1 := by rw [List.getD_eq_getElem?_getD, List.getElem?_map, ht]; rfl
    injection e with e1 e2
    subst e1
    subst e2
    dsimp only
    rw [hD]
    exact ⟨by rw [ei, List.getElem?_toArray, List.getElem?_map, ht]; rfl, .inl (tup t (List.mem_of_getElem? ht))⟩
  refine call_dict_pairsH (knd := tupleKind (mixKind X.prog X.w)) (ps := encT (T.map fun t => (t.1, t.2.2))) (PairArg.list a its.toArray (fun j => (T.map fun t => t.2.1).getD j 0) ps) (I.ok.hd hc) (by show X.A.units + 1 + 1 < cLine; omega) ⟨⟨o, n, ho, hc', hd, hdat⟩, items⟩ ⟨?_, ?_⟩ ?_ ?_ fun h' tk hd' k => ?_
  · rw [encT, List.length_map, List.length_map]
    exact (List.length_map _).symm
  · intro j k v e
    have e : (T.map fun t => (Value.ref t.2.2, Value.bool true))[j]? = some (k, v) := e
    rw [List.getElem?_map] at e
    obtain ⟨t, ht, e⟩ := Option.map_eq_some_iff.mp e
    injection e with e1 e2
    exact ⟨skey t.1, t.2.2, by rw [encT, List.map_map, List.getElem?_map, ht, ← e2]; rfl, e1.symm⟩
  · intro h2 kp x hx
    obtain ⟨p, hp, rfl⟩ := List.mem_map.mp hx
    obtain ⟨t, ht, rfl⟩ := List.mem_map.mp hp
    obtain ⟨o2, i2, n2, e1, e2⟩ := key t ht
    exact ⟨o2, i2, n2, kp _ _ (Nat.ne_of_lt (Heap.lt_size e1)) List.not_mem_nil e1, e2⟩
  · show (T.map _).length ≤ _
    rw [List.length_map]; exact hz
  · obtain ⟨m, e1, e2, e3, e4, e5⟩ := stored_spots (T.map fun t => (t.1, t.2.2)) [] List.nodup_nil
    rw [show storedAllH [] (encT (T.map fun t => (t.1, t.2.2))) = encT m from e1] at hd'
    have e3' : ∀ s, s ∈ m.map (·.1) ↔ s ∈ T.map (·.1) := fun s => by
      rw [e3 s, List.map_map]
      simp
    have e5' : m.length ≤ T.length := by simpa using e5
    have ns : (s.heap.objs.size == sysModules) = false := beq_eq_false_iff_ne.mpr (Nat.ne_of_gt I.big)
    have hn : H s.heap.objs.size = none := I.hok.fresh (Nat.le_refl _)
    have kt : ∀ m0 : List (Spot × Addr), (∀ p ∈ m0, p ∈ m) → KT (upd H s.heap.objs.size (.dT (sdct (m.map (·.1)) fun _ => .bl true))) (sdct (m0.map (·.1)) fun _ => .bl true) (encT m0) := by
      intro m0
      induction m0 with
      | nil => exact fun _ => .nil
      | cons p m0 ih =>
        intro h
        refine .cons ⟨rfl, ?_, rfl⟩ (ih fun q hq => h q (List.mem_cons_of_mem _ hq))
        rcases e4 p (h p List.mem_cons_self) with z | z
        · cases z
        · obtain ⟨t, ht, rfl⟩ := List.mem_map.mp z
          have g := hd_to _ _ (hT t ht).2
          show upd H _ _ t.2.2 = _
          rw [upd_ne (ne_of_none g hn)]
          exact g
    have new : ObjOk X.prog X.w (upd H s.heap.objs.size (.dT (sdct (m.map (·.1)) fun _ => .bl true))) h' s.heap.objs.size (.dT (sdct (m.map (·.1)) fun _ => .bl true)) := by
      obtain ⟨o2, es, ep, g1, g2, g3, g4, g5, g6⟩ := hd'
      refine ⟨?_, ns, encT m, kt m (fun _ h => h), o2, es, ep, g1, g2, g3, g4, g6⟩
      rw [List.length_map, List.length_map]
      exact Nat.le_trans e5' hz
    exact ⟨.ref _, _, I.laid (t' := tk) (fun b o e => k b o List.not_mem_nil e) (Nat.le_refl _) new, rfl, q _ _ hn e2 (fun s => e3' s) (by rw [List.length_map, List.length_map]; exact e5')⟩
/-- d.values() -/
def valsO (p d : Addr) : HO := .ext fun h => h.IsValuesView p d
theorem valsO_ok {P : Program} {w : World} {H : Hp} {h : Heap} {p d : Addr} (e : h.get? p = some { cls := .type "dict_values", data := .fields #[.ref d] }) : ObjOk P w H h p (valsO p d) :=
  ⟨⟨_, e, rfl, rfl⟩, ⟨_, e⟩, fun h1 h2 x k => let ⟨o, ho, r⟩ := x; ⟨o, k o ho, r⟩⟩
def rValsT : V → List V → Hp → VK → Prop := fun x xs H Q => ∃ (a : Addr) (kvs : List (List Key × V)), x = .ref a ∧ xs = [] ∧ H a = some (.dT kvs) ∧ ∀ p, H p = none → Q (.ref p) (upd H p (valsO p a))
theorem meets_values {prog : Program} {w : World} {d : Addr} {es : Array DictEntry} {ep : Nat} (hd : (d == sysModules) = false) :
    MeetsIn prog w (Builtin.«dict.values» ⟨[.ref d], []⟩) (fun _ R s => DT.Raw s.heap d es ep ∧ R (.ok (.ret (.ref s.heap.objs.size))) { s with heap := s.heap.push { cls := .type "dict_values", data := .fields #[.ref d] } }) :=
  .of_wp fun A R s ⟨hm, h⟩ => by
    refine wpAny_bind ?_
    unfold Builtin.Dict.noArgs
    refine wpAny_bind (wpAny_notOrdered_dict hm.typeIs ?_)
    show wpAny (model prog w) _ (pure d) _ _ s
    refine wpAny_pure ?_
    show wpAny (model prog w) _ (Builtin.Dict.showsAll d >>= _) _ _ s
    unfold Builtin.Dict.showsAll
    rw [if_neg (by rw [hd]; exact Bool.false_ne_true)]
    refine wpAny_bind (wpAny_pure ?_)
    exact wpAny_bind (wpAny_newObj_type (wpAny_pure ⟨_, rfl, h⟩))
theorem mt_valuesT : MtR X "dict.values" rValsT := by
  intro pins s σ H x xs v us Q I rx rxs h
  obtain ⟨a, kvs, rfl, rfl, ha, q⟩ := h
  cases rx
  cases rxs
  obtain ⟨z, hd, xs', rel, o, es, ep, ho, hx, hdat, _⟩ := dt_of I.hok ha
  refine call_meetsIn PySem.F.slot_dict_values (DT.Raw.typeIs ⟨o, ho, hx, hdat⟩) PySem.F.entry_dict_values (PySem.F.args_dict_values_1 _) (meets_values (es := es) (ep := ep) hd) ⟨⟨o, ho, hx, hdat⟩, ?_⟩
  exact ⟨.ref s.heap.objs.size, _, I.laid (t' := s.toks) (fun b u e => Heap.get?_push_of_some _ e) (Nat.le_refl _) (valsO_ok (Heap.get?_push_size _ rfl)), rfl, q _ (I.hok.fresh (Nat.le_refl _))⟩
/-- list(d.values()) -/
def rListVals : List V → Hp → VK → Prop := fun vs H Q => ∃ (p a : Addr) (kvs : List (List Key × V)), vs = [.ref p] ∧ H p = some (valsO p a) ∧ H a = some (.dT kvs) ∧ ∀ D, H D = none → Q (.ref D) (upd H D (.lst (kvs.map (·.2))))
theorem call_listVals (hc : X.calm = true) : CallR X (.type "list") rListVals := by
  intro pins s σ H xs us Q I r h
  obtain ⟨p, a, kvs, rfl, hp, ha, q⟩ := h
  rw [Vals.ref1 r]
  obtain ⟨z, hd, ks, rel, o, es, ep, ho, hx, hdat, he, _⟩ := dt_of I.hok ha
  have hv : s.heap.IsValuesView p a := (I.hok p _ hp).1
  have hes : es.size = ks.length := by rw [← Array.length_toList, he, List.length_map]
  have hkl : kvs.length = ks.length := Paired.length rel
  refine PySem.W.kdl_call PySem.KdlSrc.rawValues (I.ok.hd hc) ⟨hv, ⟨o, ho, hx, hdat⟩⟩ (by omega) fun h' tk acc c kp hS it => ?_
  have vals : Vals (kvs.map (·.2)) acc.toList := by
    have hl : acc.toList.length = ks.length := by rw [Array.length_toList, it.1, hes]
    have pt : ∀ j (hj : j < ks.length), acc.toList[j]? = some ks[j].2.2 := fun j hj => by
      have h1 : j < acc.size := by rw [it.1, hes]; exact hj
      obtain ⟨hi, e⟩ := it.2 j _ (Array.getElem?_eq_getElem h1)
      have e2 : es.toList[j]? = some (entryOfKey (tupleKind (mixKind X.prog X.w)) ks[j]) := by rw [he, List.getElem?_map, List.getElem?_eq_getElem hj]; rfl
      rw [Array.getElem?_toList, Array.getElem?_eq_getElem hi] at e2
      rw [Array.getElem?_toList, Array.getElem?_eq_getElem h1, e, Option.some.inj e2]; rfl
    have el : acc.toList = ks.map fun x => x.2.2 := by
      apply List.ext_getElem
      · rw [hl, List.length_map]
      · intro j h1 h2
        have hj : j < ks.length := by rw [List.length_map] at h2; exact h2
        have e := pt j hj
        rw [List.getElem?_eq_getElem h1] at e
        rw [Option.some.inj e, List.getElem_map]
    have key : ∀ {l : List (List Key × V)} {k : List (List Key × Addr × Value)}, KT H l k → Vals (l.map (·.2)) (k.map fun x => x.2.2) := fun r => by
      induction r with
      | nil => exact .nil
      | cons h _ ih => exact .cons h.2.2 ih
    rw [el]
    exact key rel
  have new : ObjOk X.prog X.w (upd H s.heap.objs.size (.lst (kvs.map (·.2)))) h' s.heap.objs.size (.lst (kvs.map (·.2))) := ⟨by rw [List.length_map]; exact z, acc.toList, c, vals, by rw [Array.toArray_toList]; exact hS⟩
  exact ⟨.ref _, _, I.laid (t' := tk) kp (Nat.le_refl _) new, rfl, q _ (I.hok.fresh (Nat.le_refl _))⟩
end
end Pw
end
section
set_option linter.all false
set_option maxRecDepth 100000
set_option maxHeartbeats 2000000
/-! Rules 4: < of data, max with a default. -/
namespace Pw
open PySem PySem.Spec PyProof.Rows L2
section
variable {α : Type} [LT α] [STO α] [DecidableEq α] [DecidableLT α] {A : Enc α} {X : Cx}
def rLtA (A : Enc α) : R2 := fun x y H Q => ∃ S a b, At (Hd S H) A x a ∧ At (Hd S H) A y b ∧ Q (.bl (decide (a < b))) H
theorem op_ltA (hn : ∀ a, A.e a ≠ .none) (hu : X.A.units + 65 < cLine) (hd : A.dep ≤ 60 := by decide) : OpR X (compareOp .Lt) (rLtA A) := by
  intro pins s σ H x y v u Q I rx ry h
  obtain ⟨S, a, b, ha, hb, q⟩ := h
  obtain ⟨as, ra⟩ := Dp.reads I (A.e a) x v (ha.dp hd_to) rx
  obtain ⟨bs, rb⟩ := Dp.reads I (A.e b) y u (hb.dp hd_to) ry
  have h1 := A.dle a
  show wpAny (model X.prog X.w) X.A (richCompare .Lt v u) _ _ s
  refine PySem.W.rcLt_alike (A.e a) (A.e b) X.A s v u as bs ra rb (A.ali a b) (hn a) (by have : min (A.e a).depth (A.e b).depth ≤ (A.e a).depth := Nat.min_le_left _ _; omega) X.prog X.w X.xe _ ?_
  rw [A.lt]
  exact ⟨.bl _, H, I, rfl, q⟩
end
theorem depth_nats : ∀ ns : List Nat, PyData.depthAll (ns.map fun n => PyData.int (n : Nat)) = 0
  | [] => by simp [PyData.depthAll]
  | n :: ns => by simp [PyData.depthAll, PyData.depth, depth_nats ns]
theorem alike_nats (ns : List Nat) : PySem.W.AlikeAll (ns.map fun n => PyData.int (n : Nat)) := by
  refine ⟨fun d hd d' hd' => ?_, fun d hd => ?_⟩
  · obtain ⟨n, _, rfl⟩ := List.mem_map.mp hd
    obtain ⟨m, _, rfl⟩ := List.mem_map.mp hd'
    simp [PySem.W.alike]
  · obtain ⟨n, _, rfl⟩ := List.mem_map.mp hd
    exact fun z => nomatch z
def maxl (ns : List Nat) : Nat := ns.foldl max 0
theorem foldl_le : ∀ (ns : List Nat) (m : Nat), m ≤ ns.foldl max m ∧ (∀ n ∈ ns, n ≤ ns.foldl max m) ∧ (ns.foldl max m = m ∨ ns.foldl max m ∈ ns)
  | [], m => ⟨Nat.le_refl _, (fun n h => nomatch h), .inl rfl⟩
  | a :: ns, m => by
    obtain ⟨h1, h2, h3⟩ := foldl_le ns (max m a)
    rw [List.foldl_cons]
    refine ⟨by omega, fun n hn => ?_, ?_⟩
    · rcases List.mem_cons.mp hn with z | z
      · rw [z]; omega
      · exact h2 n z
    · rcases h3 with z | z
      · rw [z]
        rcases Nat.le_total m a with k | k
        · rw [Nat.max_eq_right k]; exact .inr List.mem_cons_self
        · rw [Nat.max_eq_left k]; exact .inl rfl
      · exact .inr (List.mem_cons_of_mem _ z)
theorem maxl_ge {ns : List Nat} {n : Nat} (h : n ∈ ns) : n ≤ maxl ns := (foldl_le ns 0).2.1 n h
theorem maxl_mem {ns : List Nat} (h : 0 < maxl ns) : maxl ns ∈ ns := by
  rcases (foldl_le ns 0).2.2 with z | z
  · unfold maxl at h; omega
  · exact z
theorem foldl_cast : ∀ (ns : List Nat) (m : Nat), (ns.map fun n : Nat => (n : Int)).foldl max (m : Int) = ((ns.foldl max m : Nat) : Int)
  | [], _ => rfl
  | a :: ns, m => by
    rw [List.map_cons, List.foldl_cons, List.foldl_cons, ← foldl_cast ns]
    congr 1
    omega
section
variable {X : Cx}
theorem reads_nats {pins : List (Addr × Obj)} {σ : L2.St} {H : Hp} {s : Shared} (I : Inv X pins σ H s) {its : List Value} : ∀ {ns : List Nat}, Vals (ns.map fun n => V.int (n : Nat)) its → ReadsAll s.heap its (ns.map fun n => PyData.int (n : Nat)) [] := by
  intro ns
  induction ns generalizing its with
  | nil => intro r; cases r; exact .nil
  | cons n ns ih =>
    intro r
    cases r with
    | cons r1 r2 =>
      obtain ⟨t, rfl⟩ := r1
      exact .cons (as := []) (bs := []) (.int _ _) (ih r2)
/-- max(xs, default=0), xs natural numbers -/
def rMax0 (K : Fg) : List V → List V → Hp → VK → Prop := fun vs zs H Q => ∃ (a : Addr) (ns : List Nat), vs = [V.ref a] ∧ zs = [.int 0] ∧ SqL K H a (ns.map fun n => V.int (n : Nat)) ∧ Q (.int (maxl ns : Nat)) H
theorem cr_max0 (hc : X.calm = true) (hu : X.A.units + 65 < cLine) : CallRK X (.builtin "max") ["default"] (rMax0 X.K) := by
  intro pins s σ H xs zs us ws Q I r1 r2 h
  obtain ⟨a, ns, rfl, rfl, hs, q⟩ := h
  obtain ⟨its, rv, hl, _⟩ := I.list hs
  rw [Vals.ref1 r1]
  cases r2 with
  | cons r2 rr =>
    cases rr
    obtain ⟨t, rfl⟩ := r2
    have dep := depth_nats ns
    refine PySem.W.max_list_default (xs := ns.map fun n => PyData.int (n : Nat)) (I.ok.hd hc) hl.isList (reads_nats I (by simpa using rv)) (alike_nats ns) (by rw [dep]; omega) (fun e h' tk kp => ?_) fun y ys i v h' tk bs e hv hr kp => ?_
    · have en : ns = [] := List.map_eq_nil_iff.mp e
      subst en
      exact ⟨.int 0, H, I.kept kp, ⟨_, rfl⟩, q⟩
    · cases ns with
      | nil => cases e
      | cons n ns =>
        rw [List.map_cons] at e
        injection e with e1 e2
        subst e1
        rw [← e2, show (ns.map fun n => PyData.int (n : Nat)) = (ns.map fun n : Nat => (n : Int)).map PyData.int by rw [List.map_map]; rfl, PySem.W.maxD_ints, foldl_cast] at hr
        have em : maxl (n :: ns) = ns.foldl max n := by
          unfold maxl
          rw [List.foldl_cons, Nat.zero_max]
        cases hr
        exact ⟨.int _, H, I.kept kp, ⟨_, rfl⟩, by rw [← em]; exact q⟩
end
end Pw
end
section
set_option linter.all false
set_option maxRecDepth 100000
set_option maxHeartbeats 2000000
/-! Rules 5: the rules with the fragment named, for comprehensions. -/
namespace Pw
open PySem PySem.Spec PyProof.Rows L2
section
variable {X : Cx} (K : Fg) (e : X.K = K)
include e
theorem k_ixL : IxR X (rIxL K) := e ▸ ix_list
theorem k_ixT : IxR X (rIxT K) := e ▸ ix_tup
theorem k_in (hu : X.A.units + 65 < cLine) : OpR X (compareOp .In) (rInD K) := e ▸ op_inD hu
theorem k_notIn (hu : X.A.units + 65 < cLine) : OpR X (compareOp .NotIn) (rNotInD K) := e ▸ op_notInD hu
theorem k_eq (hu : X.A.units + 65 < cLine) : OpR X (compareOp .Eq) (rEqD K) := e ▸ op_eqD (by omega)
theorem k_ne (hu : X.A.units + 65 < cLine) : OpR X (compareOp .NotEq) (rNeD K) := e ▸ op_neD (by omega)
theorem k_index (hu : X.A.units + 65 < cLine) : MtR X "list.index" (rIndexD K) := e ▸ mt_indexD hu
theorem k_slL : SlR X (rSlL K) := e ▸ sl_list
theorem k_slT : SlR X (rSlT K) := e ▸ sl_tup
def rLen (K : Fg) : List V → Hp → VK → Prop := fun xs H Q => ∃ p ys, xs = [.ref p] ∧ (SqL K H p ys ∨ SqT K H p ys) ∧ Q (.int ys.length) H
theorem k_len : CallR X (.builtin "len") (rLen K) := e ▸ call_len_seq
def rListOf (K : Fg) : List V → Hp → VK → Prop := fun xs H Q => ∃ p ys, xs = [.ref p] ∧ (SqL K H p ys ∨ SqT K H p ys) ∧ ∀ l, H l = none → Q (.ref l) (upd H l (.lst ys))
theorem k_listOf : CallR X (.type "list") (rListOf K) := e ▸ call_list_of
def rTupOf (K : Fg) : List V → Hp → VK → Prop := fun xs H Q => ∃ p ys, xs = [.ref p] ∧ ((SqL K H p ys ∧ ∀ l, H l = none → Q (.ref l) (upd H l (.tup ys))) ∨ (SqT K H p ys ∧ Q (.ref p) H))
theorem k_tupOf : CallR X (.type "tuple") (rTupOf K) := e ▸ call_tuple_of
theorem k_all (hc : X.calm = true) : CallR X (.builtin "all") (rAll K) := e ▸ cr_all hc
theorem k_allT (hc : WarmC X) : CallR X (.builtin "all") (rAllT K) := e ▸ cr_allT hc
theorem k_max (hc : X.calm = true) : CallR X (.builtin "max") (rMax K) := e ▸ cr_max hc
theorem k_max0 (hc : X.calm = true) (hu : X.A.units + 65 < cLine) : CallRK X (.builtin "max") ["default"] (rMax0 K) := e ▸ cr_max0 hc hu
theorem k_sum0 (hc : WarmC X) : CallRK X (.builtin "sum") ["start"] (rSum0 K) := e ▸ cr_sum0 hc
theorem k_piL {tg l : Expr} {tl : TE} (hl : PE X l tl) : PI X tg l (iList K tl) := e ▸ pi_list hl
theorem k_piT {tg l : Expr} {tl : TE} (hl : PE X l tl) : PI X tg l (iTup K tl) := e ▸ pi_tup hl
theorem k_wiL {tg l : Expr} {tl : TE} (hl : PE X l tl) : PIW X tg l (iList K tl) := e ▸ piW_list hl
theorem k_wiT {tg l : Expr} {tl : TE} (hl : PE X l tl) : PIW X tg l (iTup K tl) := e ▸ piW_tup hl
theorem k_pgT {es : List Expr} {k : Nat} {t : TGs} {n : Nat} {pos : Pos} (hc : X.calm = true) (h : PGs X es t) (hn : (assignEach es X.env).length = n := by rfl) (hst : (assignEach es X.env).findIdx? (·.1) = none := by rfl) : PG X (.Tuple es k pos) (gTup K n t) := e ▸ pg_tup hc h hn hst
theorem k_wgT {es : List Expr} {k : Nat} {t : TGs} {n : Nat} {pos : Pos} (hc : WarmC X) (h : PGs X es t) (hn : (assignEach es X.env).length = n := by rfl) (hst : (assignEach es X.env).findIdx? (·.1) = none := by rfl) : PG X (.Tuple es k pos) (gTup K n t) := e ▸ pg_tupW hc h hn hst
theorem k_fld {o : Expr} {f : Str} {pos : Pos} {ta : TE} (he : PE X o ta) (hb : attributeBase o f X.env (eval o X.env) = eval o X.env) : PE X (.Attribute o f pos) (tFld K ta f) := e ▸ pe_fld he hb
theorem k_rev {o : Expr} {te : TE} {k : Nat} {p1 p2 p3 pos : Pos} (he : PE X o te) : PE X (.Subscript o (.Slice none none (some (.UnaryOp .USub (.Constant (.int 1) k p1) p2)) p3) pos) (tRevL K te) := e ▸ pe_revL he
end
end Pw
end
section
set_option linter.all false
set_option maxRecDepth 100000
set_option maxHeartbeats 2000000
/-! Rules 6: readings by data. -/
namespace Pw
open PySem PySem.Spec PyProof.Rows L2
section
variable {α : Type} [LT α] [STO α] [DecidableEq α] [DecidableLT α] {A : Enc α} {K : Fg} {G H : Hp} {x y : V} {a b : α} {l : List α} {Q : VK}
theorem any_eqv (A : Enc α) (a : α) : ∀ l : List α, ((l.map A.e).any fun z => PyData.eqv z (A.e a)) = decide (a ∈ l)
  | [] => rfl
  | b :: l => by
    rw [List.map_cons, List.any_cons, any_eqv A a l, A.eqv, ← Bool.decide_or]
    refine decide_eq_decide.mpr ?_
    rw [List.mem_cons]
    exact ⟨fun h => h.imp Eq.symm id, fun h => h.imp Eq.symm id⟩
theorem in_at (ha : At G A x a) (hl : At G (eList A) y l) (g : Same G H) (q : Q (.bl (decide (a ∈ l))) H) (hd : A.dep ≤ 60 := by decide) : rInD K x y H Q := by
  refine ⟨A.e a, l.map A.e, ha.dp g, hl.dp g, A.shaped ha.2 (by omega), (eList A).shaped hl.2 (show A.dep + 1 ≤ 64 by omega), ?_⟩
  rw [any_eqv]; exact q
theorem notin_at (ha : At G A x a) (hl : At G (eList A) y l) (g : Same G H) (q : Q (.bl (!decide (a ∈ l))) H) (hd : A.dep ≤ 60 := by decide) : rNotInD K x y H Q := by
  refine ⟨A.e a, l.map A.e, ha.dp g, hl.dp g, A.shaped ha.2 (by omega), (eList A).shaped hl.2 (show A.dep + 1 ≤ 64 by omega), ?_⟩
  rw [any_eqv]; exact q
theorem eq_at (ha : At G A x a) (hb : At G A y b) (g : Same G H) (q : Q (.bl (decide (a = b))) H) (hd : A.dep ≤ 60 := by decide) : rEqD K x y H Q := by
  refine ⟨A.e a, A.e b, ha.dp g, hb.dp g, A.shaped ha.2 (by omega), A.shaped hb.2 (by omega), ?_⟩
  rw [A.eqv]; exact q
theorem ne_at (ha : At G A x a) (hb : At G A y b) (g : Same G H) (q : Q (.bl (!decide (a = b))) H) (hd : A.dep ≤ 60 := by decide) : rNeD K x y H Q := by
  refine ⟨A.e a, A.e b, ha.dp g, hb.dp g, A.shaped ha.2 (by omega), A.shaped hb.2 (by omega), ?_⟩
  rw [A.eqv]; exact q
theorem index_at (ha : At G A x a) (hl : At G (eList A) y l) (g : Same G H) (hm : a ∈ l) (q : Q (.int (l.idxOf a : Nat)) H) (hd : A.dep ≤ 60 := by decide) : rIndexD K y [x] H Q := by
  obtain ⟨p, xs, rfl, hp, hx⟩ := id hl.list
  have hi := List.idxOf_lt_length_of_mem hm
  refine ⟨p, x, A.e a, l.map A.e, l.idxOf a, A.e a, rfl, rfl, hl.dp g, ha.dp g, (eList A).shaped hl.2 (show A.dep + 1 ≤ 64 by omega), A.shaped ha.2 (by omega), ?_, by rw [A.eqv]; simp, fun m z hm2 hz => ?_, q⟩
  · rw [List.getElem?_map, List.getElem?_eq_getElem hi, List.getElem_idxOf hi]; rfl
  · rw [List.getElem?_map] at hz
    obtain ⟨c, hc, rfl⟩ := Option.map_eq_some_iff.mp hz
    rw [A.eqv]
    refine decide_eq_false fun e => ?_
    subst e
    obtain ⟨h1, h2⟩ := List.getElem?_eq_some_iff.mp hc
    have n := List.not_of_lt_findIdx (p := (· == c)) (xs := l) (i := m) hm2
    rw [h2] at n
    rw [beq_self_eq_true] at n
    cases n
end
section
variable {K : Fg} {S : List Addr} {H : Hp} {α : Type} [LT α] [STO α] [DecidableEq α] [DecidableLT α] {A : Enc α} {v : V} {l : List α}
theorem At.sql (h : At (Hd S H) (eList A) v l) : ∃ p xs, v = .ref p ∧ SqL K H p xs ∧ xs.length = l.length := by
  obtain ⟨p, xs, e, hp, hx⟩ := h.list
  exact ⟨p, xs, e, .of (Hd_some hp).2, hx.len⟩
/-- for x in list: what holds before turn i -/
theorem forL {a : Addr} {xs : List V} {g : TG} {tb : TS} {D : Ends} {σ : L2.St} {H0 : Hp} (ha : Hd S H0 a = some (.lst xs)) (hx : Ats (Hd S H0) A xs l) (Pv : Nat → L2.St → Hp → Prop) (h0 : Pv 0 σ H0) (hs : ∀ i σ H, Pv i σ H → Fz S H0 H)
    (turn : ∀ i x v σ H, l[i]? = some x → Pv i σ H → At (Hd S H) A v x → g v σ H fun σ2 H2 => tb { D with nx := Pv (i + 1), ct := Pv (i + 1), bk := D.nx } σ2 H2) (done : ∀ σ H, Pv l.length σ H → D.nx σ H) :
    ∃ W : Nat → Nat → L2.St → Hp → Prop, (∃ m, W 0 m σ H0) ∧ ∀ i m σ H, W i m σ H →
      ((Itl K a).stop i H ∧ D.nx σ H) ∨ ((Itl K a).go i H ∧ ∃ N : L2.St → Hp → Prop, (∀ σ' H', N σ' H' → ∃ m', m' < m ∧ W (i + 1) m' σ' H') ∧ ∀ x H', (Itl K a).yld i H x H' → g x σ H' fun σ2 H2 => tb { D with nx := N, ct := N, bk := D.nx } σ2 H2) := by
  have nS := (Hd_some ha).1
  have ll := hx.len
  refine for_list Pv h0 (fun i σ H _ p => .of ((hs i σ H p) _ _ nS (Hd_some ha).2)) (fun i x σ H hi p => ?_) (fun σ H p => done σ H (by rw [← ll]; exact p))
  obtain ⟨z, hz, az⟩ := hx.at hi
  exact turn i z x σ H hz p (az.same (hs i σ H p).hd)
end
end Pw
end
section
set_option linter.all false
set_option maxRecDepth 100000
set_option maxHeartbeats 2000000
/-! Defs 1: names, words, bounds. -/
namespace Pw
open PySem PySem.Spec PyProof.Rows L2
section
variable {P : Program} {w : World} {K : PySem.W.Frag} {mg : Str → Option Value} {base : Heap}
abbrev s_beneath : Stmt := top 15
theorem sc_beneath : FnScope ["word"] ["word"] (defScope s_beneath) := ⟨rfl, rfl, rfl, by decide +kernel, rfl, by decide +kernel, by decide +kernel⟩
def spBeneath : Sp := fun vs H Q _ => ∃ x : W, vs = [.str (tx x)] ∧ okW x ∧ Q (.str (tx x.dropLast)) H
theorem ok_beneath (T : Tx K mg) : FnOk P w K mg base CX0 1 (He.ga K "beneath") T.fd_beneath ["word"] spBeneath := by
  refine T.F_beneath.ok sc_beneath (fun vs H Q E h => ?_) (fun cdv A outer s H vs Q E hr h => ?_)
  · obtain ⟨x, rfl, _⟩ := h; rfl
  · obtain ⟨x, rfl, hx, q⟩ := h
    refine ⟨_, (pss_one (ps_ret (pe_slice sl_str (pv 0) po_none (po_some (pe_un un_neg pe_int))))), ?_⟩
    refine ⟨_, rfl, 1, rfl, _, rfl, _, rfl, okW_line hx, ?_⟩
    rw [show (-1 : Int) = -1 from rfl, cut_but]
    exact q
def letters : W := [97, 98, 99, 100, 101, 102, 103, 104, 105, 106, 107, 108, 109, 110, 111, 112, 113, 114, 115, 116, 117, 118, 119, 120, 121, 122]
def signs : W := [108, 117, 114]
theorem letters_eq : ("abcdefghijklmnopqrstuvwxyz" : Str).cps.toList = letters := by decide +kernel
theorem signs_eq : ("lur" : Str).cps.toList = signs := by decide +kernel
def nameB (x : W) : Bool := (decide (0 < x.length) && decide (x.length ≤ 8)) && x.all fun c => decide (c ∈ letters)
def wordB (x : W) : Bool := decide (x.length ≤ 16) && x.all fun c => decide (c ∈ signs)
abbrev s_is_name : Stmt := top 13
theorem sc_is_name : FnScope ["text", "sign"] ["text"] (defScope s_is_name) := ⟨rfl, rfl, rfl, by decide +kernel, rfl, by decide +kernel, by decide +kernel⟩
def spIsName : Sp := fun vs H Q _ => ∃ x : W, vs = [.str (tx x)] ∧ okW x ∧ ∀ H', Same H H' → Q (.bl (nameB x)) H'
theorem ok_is_name (T : Tx K mg) : FnOk P w K mg base CX0 1 (He.ga K "is_name") T.fd_is_name ["text"] spIsName := by
  refine T.F_is_name.ok sc_is_name (fun vs H Q E h => ?_) (fun cdv A outer s H vs Q E hr h => ?_)
  · obtain ⟨x, rfl, _⟩ := h; rfl
  · obtain ⟨x, rfl, hx, q⟩ := h
    refine ⟨_, (pss_one (ps_ret (pe_and (pe_chain op_lt op_le pe_int (pe_callB call_len_str rfl T.f_len PySem.boot_len (pa_cons (pv 0) pa_nil)) (pe_glob (v := .int 8) rfl T.g_LONGEST_NAME ⟨_, rfl⟩)) (pe_one (pe_callB (k_all K rfl rfl) rfl T.f_all (by decide +kernel) (pa_cons (pe_lc (own := [("sign", 1)]) rfl sc_is_name.nd (pi_str (pv 0)) (blkOk_by (own := [("sign", 1)]) (N := ["text", "sign"]) (sc := (defScope s_is_name)) (by decide +kernel)) (fun _ _ _ _ _ => (pg_name (i := 1) sc_is_name.nd rfl (Or.inl rfl))) (fun _ _ _ _ _ => pts_nil) (fun _ _ _ _ _ => (pe_cmpR op_in_sign (pv 1) (pe_glob (v := .str "abcdefghijklmnopqrstuvwxyz") rfl T.g_LETTERS ⟨_, rfl⟩) (by rfl)))) pa_nil)))))), ?_⟩
    refine ⟨_, rfl, _, rfl, okW_line hx, 0, _, rfl, rfl, _, rfl, ?_⟩
    rw [tx_len]
    refine ite2 (fun h1 => ?_) (fun h1 => ?_)
    · refine ⟨_, _, rfl, rfl, _, rfl, ite2 (fun h2 => ?_) (fun h2 => ?_)⟩
      · refine ⟨_, rfl, tx x, rfl, fun D hD => ?_⟩
        refine lc_strV (fun _ => true) (fun c => .bl (decide (c ∈ letters))) hD (Nat.le_of_lt (small1000 hx.1)) (fun c hc H1 sm NF NT k1 k2 => ?_) (fun H1 sm hl => ?_)
        · refine ⟨rfl, ?_⟩
          refine ⟨_, rfl, c, _, rfl, rfl, ?_⟩
          rw [letters_eq]
          exact k2 rfl _ (.refl _)
        · refine ⟨D, x.map fun c => decide (c ∈ letters), rfl, .of (by rw [hl, ftrue, List.map_map]; rfl), ?_⟩
          have e : nameB x = (x.map fun c => decide (c ∈ letters)).all id := by
            unfold nameB
            rw [show decide (0 < x.length) = true from decide_eq_true (by have := of_decide_eq_true h1; omega), show decide (x.length ≤ 8) = true from decide_eq_true (by have := of_decide_eq_true h2; omega), List.all_map]
            rfl
          rw [← e]
          exact q _ sm
      · have e : nameB x = false := by
          unfold nameB
          rw [show decide (x.length ≤ 8) = false from decide_eq_false (fun z => h2 (decide_eq_true (by omega))), Bool.and_false, Bool.false_and]
        have := q H (.refl _)
        rw [e] at this
        exact this
    · have e : nameB x = false := by
        unfold nameB
        rw [show decide (0 < x.length) = false from decide_eq_false (fun z => h1 (decide_eq_true (by omega))), Bool.false_and, Bool.false_and]
      have := q H (.refl _)
      rw [e] at this
      exact ⟨false, rfl, iteF this⟩
abbrev s_is_word : Stmt := top 14
theorem sc_is_word : FnScope ["text", "sign"] ["text"] (defScope s_is_word) := ⟨rfl, rfl, rfl, by decide +kernel, rfl, by decide +kernel, by decide +kernel⟩
def spIsWord : Sp := fun vs H Q _ => ∃ x : W, vs = [.str (tx x)] ∧ okW x ∧ ∀ H', Same H H' → Q (.bl (wordB x)) H'
theorem ok_is_word (T : Tx K mg) : FnOk P w K mg base CX0 1 (He.ga K "is_word") T.fd_is_word ["text"] spIsWord := by
  refine T.F_is_word.ok sc_is_word (fun vs H Q E h => ?_) (fun cdv A outer s H vs Q E hr h => ?_)
  · obtain ⟨x, rfl, _⟩ := h; rfl
  · obtain ⟨x, rfl, hx, q⟩ := h
    refine ⟨_, (pss_one (ps_ret (pe_and (pe_cmpR op_le (pe_callB call_len_str rfl T.f_len PySem.boot_len (pa_cons (pv 0) pa_nil)) (pe_glob (v := .int 16) rfl T.g_TALLEST ⟨_, rfl⟩) (nomark _)) (pe_one (pe_callB (k_all K rfl rfl) rfl T.f_all (by decide +kernel) (pa_cons (pe_lc (own := [("sign", 1)]) rfl sc_is_word.nd (pi_str (pv 0)) (blkOk_by (own := [("sign", 1)]) (N := ["text", "sign"]) (sc := (defScope s_is_word)) (by decide +kernel)) (fun _ _ _ _ _ => (pg_name (i := 1) sc_is_word.nd rfl (Or.inl rfl))) (fun _ _ _ _ _ => pts_nil) (fun _ _ _ _ _ => (pe_cmpR op_in_sign (pv 1) (pe_glob (v := .str "lur") rfl T.g_WAYS ⟨_, rfl⟩) (by rfl)))) pa_nil)))))), ?_⟩
    refine ⟨_, rfl, _, rfl, okW_line hx, _, _, rfl, rfl, _, rfl, ?_⟩
    rw [tx_len]
    refine ite2 (fun h1 => ?_) (fun h1 => ?_)
    · refine ⟨_, rfl, tx x, rfl, fun D hD => ?_⟩
      refine lc_strV (fun _ => true) (fun c => .bl (decide (c ∈ signs))) hD (Nat.le_of_lt (small1000 hx.1)) (fun c hc H1 sm NF NT k1 k2 => ?_) (fun H1 sm hl => ?_)
      · refine ⟨rfl, ?_⟩
        refine ⟨_, rfl, c, _, rfl, rfl, ?_⟩
        rw [signs_eq]
        exact k2 rfl _ (.refl _)
      · refine ⟨D, x.map fun c => decide (c ∈ signs), rfl, .of (by rw [hl, ftrue, List.map_map]; rfl), ?_⟩
        have e : wordB x = (x.map fun c => decide (c ∈ signs)).all id := by
          unfold wordB
          rw [show decide (x.length ≤ 16) = true from decide_eq_true (by have := of_decide_eq_true h1; omega), List.all_map]
          rfl
        rw [← e]
        exact q _ sm
    · have e : wordB x = false := by
        unfold wordB
        rw [show decide (x.length ≤ 16) = false from decide_eq_false (fun z => h1 (decide_eq_true (by omega))), Bool.false_and]
      have := q H (.refl _)
      rw [e] at this
      exact this
abbrev s_need_sap : Stmt := top 27
theorem sc_need_sap : FnScope ["sap"] ["sap"] (defScope s_need_sap) := ⟨rfl, rfl, rfl, by decide +kernel, rfl, by decide +kernel, by decide +kernel⟩
def spNeedSap : Sp := fun vs H Q _ => ∃ k : Int, vs = [.int k] ∧ 0 ≤ k ∧ k ≤ 300 ∧ Q .non H
theorem ok_need_sap (T : Tx K mg) : FnOk P w K mg base CX0 1 (He.ga K "need_sap") T.fd_need_sap ["sap"] spNeedSap := by
  refine T.F_need_sap.ok sc_need_sap (fun vs H Q E h => ?_) (fun cdv A outer s H vs Q E hr h => ?_)
  · obtain ⟨x, rfl, _⟩ := h; rfl
  · obtain ⟨k, rfl, h0, h1, q⟩ := h
    refine ⟨_, (pss_one (ps_if (pt_not (pt_chain op_le op_le pe_int (pv 0) (pe_glob (v := .int 300) rfl T.g_MOST_SAP ⟨_, rfl⟩))) (pss_one ps_never) pss_nil)), ?_⟩
    refine ⟨_, rfl, 0, k, rfl, rfl, _, rfl, ?_⟩
    rw [decide_eq_true h0]
    refine iteT ⟨k, 300, rfl, rfl, _, rfl, ?_⟩
    rw [decide_eq_true h1]
    exact iteF q
/-- how many seasons so many pieces need -/
def needS (many sap : Nat) : Nat := (many + sap - 1) / sap
abbrev s_seasons_for : Stmt := top 28
theorem sc_seasons_for : FnScope ["many", "sap"] ["many", "sap"] (defScope s_seasons_for) := ⟨rfl, rfl, rfl, by decide +kernel, rfl, by decide +kernel, by decide +kernel⟩
def spSeasonsFor : Sp := fun vs H Q _ => ∃ m k : Nat, vs = [.int m, .int k] ∧ 1 ≤ k ∧ k ≤ 300 ∧ Q (.int (needS m k : Nat)) H
theorem ok_seasons_for (T : Tx K mg) : FnOk P w K mg base CX0 1 (He.ga K "seasons_for") T.fd_seasons_for ["many", "sap"] spSeasonsFor := by
  refine T.F_seasons_for.ok sc_seasons_for (fun vs H Q E h => ?_) (fun cdv A outer s H vs Q E hr h => ?_)
  · obtain ⟨m, k, rfl, _⟩ := h; rfl
  · obtain ⟨m, k, rfl, h0, h1, q⟩ := h
    refine ⟨_, (pss_cons (ps_if (pt_cmpR op_eq (pv 0) pe_int (nomark _)) (pss_one (ps_ret pe_int)) pss_nil)
      (pss_cons (ps_if (pt_cmpR op_eq (pv 1) pe_int (nomark _)) (pss_one (ps_ret pe_non)) pss_nil)
      (pss_one (ps_ret (pe_op op_fdiv (pe_op op_sub (pe_op op_add (pv 0) (pv 1)) pe_int) (pv 1)))))), ?_⟩
    refine ⟨_, rfl, rfl, _, rfl, ite2 (fun e => ?_) (fun e => ?_)⟩
    · have e1 : (m : Int) = 0 := V.int.inj (of_decide_eq_true e)
      have e2 : m = 0 := by omega
      subst e2
      have e3 : needS 0 k = 0 := Nat.div_eq_of_lt (by omega)
      rw [e3] at q
      exact q
    · refine ⟨_, rfl, rfl, _, rfl, ite2 (fun e => ?_) (fun e => ?_)⟩
      · have e1 : (k : Int) = 0 := V.int.inj (of_decide_eq_true e)
        omega
      · refine ⟨_, rfl, _, rfl, _, _, rfl, rfl, _, _, rfl, rfl, _, rfl, _, _, rfl, rfl, ⟨by omega, by omega⟩, ?_⟩
        rename_i e0
        have hm : 1 ≤ m := by
          cases m with
          | zero => exact absurd (decide_eq_true rfl) e0
          | succ m => omega
        have e2 : ((m : Int) + k - 1) / k = (needS m k : Nat) := by
          unfold needS
          rw [show (m : Int) + k - 1 = ((m + k - 1 : Nat) : Int) by omega]
          exact (Int.natCast_ediv _ _).symm
        show Q (.int (((m : Int) + k - 1) / k)) H
        rw [e2]
        exact q
end
end Pw
end
section
set_option linter.all false
set_option maxRecDepth 100000
set_option maxHeartbeats 2000000
/-! Defs 2: rows, bounds, trees, lacking. -/
namespace Pw
open PySem PySem.Spec PyProof.Rows L2
theorem hu65_of {k : Nat} {A : Around} (r : Room k A) : A.units + 65 < cLine := by have := r.un; omega
theorem hu1_of {k : Nat} {A : Around} (r : Room k A) : A.units + 1 < cLine := by have := r.un; omega
/-- each rising once -/
def once {α : Type} [DecidableEq α] : List α → List α
  | [] => []
  | x :: l => if x ∈ once l then once l else x :: once l
section
variable {α : Type} [DecidableEq α] [LT α] [STO α] [DecidableLT α]
theorem once_spec : ∀ l : List α, (once l).Nodup ∧ ∀ x, x ∈ once l ↔ x ∈ l
  | [] => ⟨List.nodup_nil, fun x => Iff.rfl⟩
  | y :: l => by
    obtain ⟨h1, h2⟩ := once_spec l
    by_cases h : y ∈ once l
    · rw [once, if_pos h]
      refine ⟨h1, fun x => ?_⟩
      rw [h2, List.mem_cons]
      exact ⟨.inr, fun z => z.elim (fun z => by rw [z]; exact (h2 y).mp h) id⟩
    · rw [once, if_neg h]
      refine ⟨List.nodup_cons.mpr ⟨h, h1⟩, fun x => ?_⟩
      rw [List.mem_cons, List.mem_cons, h2]
def uniq (l : List α) : List α := srt (once l)
theorem uniq_up (l : List α) : Up (uniq l) := srt_up (once_spec l).1
theorem mem_uniq {l : List α} {x : α} : x ∈ uniq l ↔ x ∈ l := mem_srt.trans ((once_spec l).2 x)
theorem uniq_of {l m : List α} (h : Up m) (e : ∀ x, x ∈ m ↔ x ∈ l) : m = uniq l := Up.ext h (uniq_up l) fun x => (e x).trans mem_uniq.symm
end
def lack (st wi : List Spot) : List Spot := (uniq wi).filter fun s => !decide (s ∈ st)
theorem lack_up (st wi : List Spot) : Up (lack st wi) := (uniq_up wi).sub List.filter_sublist
theorem mem_lack {st wi : List Spot} {s : Spot} : s ∈ lack st wi ↔ s ∈ wi ∧ s ∉ st := by
  unfold lack
  rw [List.mem_filter, mem_uniq]
  simp
section
variable {P : Program} {w : World} {K : PySem.W.Frag} {mg : Str → Option Value} {base : Heap}
def bndAt (row : List Nat) (k h : Nat) : Nat := match row[h]? with | some n => h + needS n k | none => 0
abbrev s_bound_at : Stmt := top 29
theorem sc_bound_at : FnScope ["row", "sap", "height", "needed"] ["row", "sap", "height"] (defScope s_bound_at) := ⟨rfl, rfl, rfl, by decide +kernel, rfl, by decide +kernel, by decide +kernel⟩
def spBoundAt : Sp := fun vs H Q _ => ∃ (S : List Addr) (v : V) (row : List Nat) (k h : Nat), vs = [v, .int k, .int h] ∧ At (Hd S H) (eList eNat) v row ∧ 1 ≤ k ∧ k ≤ 300 ∧ Q (.int (bndAt row k h : Nat)) H
theorem ok_bound_at (T : Tx K mg) : FnOk P w K mg base CX0 2 (He.ga K "bound_at") T.fd_bound_at ["row", "sap", "height"] spBoundAt := by
  refine T.F_bound_at.ok sc_bound_at (fun vs H Q E h => ?_) (fun cdv A outer s H vs Q E hr h => ?_)
  · obtain ⟨S, v, row, k, h, rfl, _⟩ := h; rfl
  · obtain ⟨S, v, row, k, h, rfl, hv, h0, h1, q⟩ := h
    refine ⟨_, (pss_cons (ps_if (pt_cmpR op_ge (pv 2) (pe_callB (k_len K rfl) rfl T.f_len PySem.boot_len (pa_cons (pv 0) pa_nil)) (nomark _)) (pss_one (ps_ret pe_int)) pss_nil)
      (pss_cons (ps_set (i := 3) sc_bound_at.nd rfl (Or.inl rfl) (pe_call (ok_seasons_for T) (hr.mono (by decide)) rfl T.g_seasons_for T.F_seasons_for.kp (b_seasons_for T) .nil pass0 (pa_cons (pe_ix (k_ixL K rfl) (pv 0) (pv 2) (fun _ _ => rfl)) (pa_cons (pv 1) pa_nil))))
      (pss_cons (ps_if (pt_cmpR op_isN (pv 3) pe_non (nomark _)) (pss_one (ps_ret pe_non)) pss_nil)
      (pss_one (ps_ret (pe_op op_add (pv 2) (pv 3))))))), ?_⟩
    obtain ⟨p, xs, rfl, hp, hx⟩ := hv.list
    have hl := hx.len
    refine ⟨_, rfl, _, rfl, p, xs, rfl, .inl (.of (Hd_some hp).2), h, xs.length, rfl, rfl, _, rfl, ite2 (fun e => ?_) fun e => ?_⟩
    · have e := of_decide_eq_true e
      have en : row[h]? = none := List.getElem?_eq_none_iff.mpr (by omega)
      unfold bndAt at q
      rw [en] at q
      exact q
    · have e2 : h < row.length := by
        rcases Nat.lt_or_ge h row.length with z | z
        · exact z
        · exact absurd (decide_eq_true (by omega)) e
      have en : row[h]? = some row[h] := List.getElem?_eq_getElem e2
      obtain ⟨w, hw, aw⟩ := hx.to en
      rw [aw.nat] at hw
      unfold bndAt at q
      rw [en] at q
      refine ⟨_, rfl, _, rfl, p, xs, h, _, rfl, rfl, .of (Hd_some hp).2, atI_nat hw, _, rfl, _, k, rfl, h0, h1, ?_⟩
      refine ⟨_, rfl, rfl, _, rfl, iteF ⟨_, rfl, _, rfl, _, _, rfl, rfl, ?_⟩⟩
      exact q
def bnds (row : List Nat) (k : Nat) : List Nat := (List.range row.length).map (bndAt row k)
abbrev s_bounds : Stmt := top 30
theorem sc_bounds : FnScope ["row", "sap", "height"] ["row", "sap"] (defScope s_bounds) := ⟨rfl, rfl, rfl, by decide +kernel, rfl, by decide +kernel, by decide +kernel⟩
def spBounds : Sp := fun vs H Q _ => ∃ (S : List Addr) (v : V) (row : List Nat) (k : Nat), vs = [v, .int k] ∧ At (Hd S H) (eList eNat) v row ∧ Own S H ∧ row.length ≤ 1000 ∧ 1 ≤ k ∧ k ≤ 300 ∧ ∀ u H', Same H H' → At (Hd S H') (eList eNat) u (bnds row k) → Q u H'
theorem ok_bounds (T : Tx K mg) : FnOk P w K mg base CX0 3 (He.ga K "bounds") T.fd_bounds ["row", "sap"] spBounds := by
  refine T.F_bounds.ok sc_bounds (fun vs H Q E h => ?_) (fun cdv A outer s H vs Q E hr h => ?_)
  · obtain ⟨S, v, row, k, rfl, _⟩ := h; rfl
  · obtain ⟨S, v, row, k, rfl, hv, ow, hlen, h0, h1, q⟩ := h
    refine ⟨_, (pss_one (ps_ret (pe_lc (own := [("height", 2)]) rfl sc_bounds.nd (pi_range1 (by rfl) T.f_range (pa_cons (pe_callB (k_len K rfl) rfl T.f_len PySem.boot_len (pa_cons (pv 0) pa_nil)) pa_nil)) (blkOk_by (own := [("height", 2)]) (N := ["row", "sap", "height"]) (sc := (defScope s_bounds)) (by decide +kernel)) (fun _ _ _ _ _ => (pg_name (i := 2) sc_bounds.nd rfl (Or.inl rfl))) (fun _ _ _ _ _ => pts_nil) (fun _ _ _ _ _ => (pe_call (ok_bound_at T) (hr.mono (by decide)) rfl T.g_bound_at T.F_bound_at.kp (b_bound_at T) .nil pass0 (pa_cons (pv 0) (pa_cons (pv 1) (pa_cons (pv 2) pa_nil)))))))), ?_⟩
    obtain ⟨p, xs, e, hp, hx⟩ := id hv.list
    have hl := hx.len
    refine ⟨_, rfl, p, xs, by rw [e], .inl (.of (Hd_some hp).2), xs.length, rfl, by omega, by omega, fun D hD => ?_⟩
    rw [show ((xs.length : Nat) : Int).toNat = row.length by omega]
    refine lc_rng (B := eNat) (fun _ => true) (fun h => bndAt row k h) ow hD (Nat.le_of_lt (small1000 hlen)) (fun i hi H1 sm wD NF NT k1 k2 => ?_) (fun H1 sm a => ?_)
    · refine ⟨rfl, ?_⟩
      refine ⟨_, rfl, _, rfl, _, rfl, D :: S, v, row, k, i, by rw [Int.zero_add]; rfl, hv.into sm hD, h0, h1, ?_⟩
      exact k2 rfl _ _ (.refl _) .of_nat
    · rw [ftrue] at a
      exact q _ _ sm a
/-- how many are deeper, for each depth -/
def rowS (ds : List Nat) : List Nat := (List.range (maxl ds)).map fun h => (ds.filter fun d => decide (h < d)).length
abbrev s_row_of : Stmt := top 24
theorem sc_row_of : FnScope ["depths", "numbers", "height", "one"] ["depths"] (defScope s_row_of) := ⟨rfl, rfl, rfl, by decide +kernel, rfl, by decide +kernel, by decide +kernel⟩
def spRowOf : Sp := fun vs H Q _ => ∃ (S : List Addr) (d : Addr) (m : List Spot) (f : Spot → Nat), vs = [.ref d] ∧ H d = some (.dT (sdct m fun s => .int (f s : Nat))) ∧ Own S H ∧ m.length ≤ 1000 ∧ (∀ s ∈ m, f s ≤ 1000) ∧ ∀ u H', Same H H' → At (Hd S H') (eList eNat) u (rowS (m.map f)) → Q u H'
theorem ok_row_of (T : Tx K mg) : FnOk P w K mg base CX0 1 (He.ga K "row_of") T.fd_row_of ["depths"] spRowOf := by
  refine T.F_row_of.ok sc_row_of (fun vs H Q E h => ?_) (fun cdv A outer s H vs Q E hr h => ?_)
  · obtain ⟨S, d, m, f, rfl, _⟩ := h; rfl
  · obtain ⟨S, d, m, f, rfl, hd, ow, hlen, hf, q⟩ := h
    have hu := hu1_of hr
    have hu65 := hu65_of hr
    refine ⟨_, (pss_cons (ps_set (i := 1) sc_row_of.nd rfl (Or.inr rfl) (pe_callTy (call_listVals rfl) rfl T.f_list (by decide +kernel) (pa_cons (pe_bm0 PySem.F.plainAttrs_dict PySem.F.slot_dict_values PySem.F.type_dict_values mt_valuesT (pv 0)) pa_nil)))
      (pss_one (ps_ret (pe_lc (own := [("height", 2)]) rfl sc_row_of.nd (pi_range1 (by rfl) T.f_range (pa_cons (pe_callBK (k_max0 K rfl rfl hu65) rfl T.f_max (by decide +kernel) (pa_cons (pv 1) pa_nil) (pk_cons pe_int pk_nil)) pa_nil)) (blkOk_by (own := [("height", 2)]) (N := ["depths", "numbers", "height", "one"]) (sc := (defScope s_row_of)) (by decide +kernel)) (fun _ _ _ _ _ => (pg_name (i := 2) sc_row_of.nd rfl (Or.inr rfl))) (fun _ _ _ _ _ => pts_nil) (fun _ _ _ _ _ => (pe_callB (k_len K rfl) rfl T.f_len PySem.boot_len (pa_cons (pe_lc (own := [("one", 3)]) rfl sc_row_of.nd (k_piL K rfl (pv 1)) (blkOk_by (own := [("one", 3)]) (N := ["depths", "numbers", "height", "one"]) (sc := (relS ({ kind := .function, names := [(".0", .local), ("height", .cell), ("len", .globalImplicit), ("numbers", .free)], isGenerator := false, isCoroutine := false } : Scope) (defScope s_row_of))) (by decide +kernel)) (fun _ _ _ _ _ => (pg_name (i := 3) sc_row_of.nd rfl (Or.inl rfl))) (fun _ _ _ _ _ => (pts_one (pt_cmpR op_gt (pv 3) (pv 2) (nomark _)))) (fun _ _ _ _ _ => (pv 3))) pa_nil))))))), ?_⟩
    refine ⟨_, rfl, .inr (.inr (.inl ⟨rfl, .inr ⟨_, hd⟩⟩)), d, _, rfl, rfl, hd, fun p hp => ⟨p, d, _, rfl, upd_same, (upd_ne (ne_of_none hd hp)).trans hd, fun D hD => ?_⟩⟩
    have e0 : ((sdct m fun s => V.int (f s : Nat)).map (·.2)) = (m.map f).map fun n => V.int (n : Nat) := by rw [sdct, List.map_map, List.map_map]; rfl
    rw [e0]
    generalize hns : m.map f = ns at q
    have hnl : ns.length ≤ 1000 := by rw [← hns, List.length_map]; exact hlen
    have hmx : maxl ns ≤ 1000 := by
      rcases Nat.eq_zero_or_pos (maxl ns) with z | z
      · omega
      · have := maxl_mem z
        rw [← hns] at this
        obtain ⟨s, hs, e⟩ := List.mem_map.mp this
        rw [← hns, ← e]; exact hf s hs
    have ow1 : Own S (upd H p (valsO p d)) := own_up ow hp
    have an := at_new (A := eNat) (l := ns) ow1 hD (ats_nats ns)
    have ow2 : Own S (upd (upd H p (valsO p d)) D (.lst (ns.map fun n => V.int (n : Nat)))) := own_up ow1 hD
    have sm0 : Same H (upd (upd H p (valsO p d)) D (.lst (ns.map fun n => V.int (n : Nat)))) := (same_up hp).trans (same_up hD)
    generalize upd (upd H p (valsO p d)) D (.lst (ns.map fun n => V.int (n : Nat))) = H2 at an ow2 sm0
    obtain ⟨D', xs, e1, hD', hx⟩ := an.list
    cases e1
    have exs := nats_of hx
    subst exs
    refine ⟨_, rfl, D, ns, rfl, rfl, .of (Hd_some hD').2, maxl ns, rfl, by omega, by omega, fun D2 hD2 => ?_⟩
    rw [show ((maxl ns : Nat) : Int).toNat = maxl ns by omega]
    refine lc_rng (B := eNat) (fun _ => true) (fun h => (ns.filter fun d => decide (h < d)).length) ow2 hD2 (Nat.le_of_lt (small1000 hmx)) (fun i hi H3 sm wD NF NT k1 k2 => ?_) (fun H3 sm a => ?_)
    · refine ⟨rfl, ?_⟩
      refine ⟨_, rfl, D, rfl, ⟨_, .of (sm _ _ (Hd_some hD').2)⟩, fun D3 hD3 => ?_⟩
      refine lc_atV (A := eNat) (S := S) (fun d => decide (i < d)) (fun d => .int (d : Nat)) hD3 (same_hd sm _ _ hD') (hx.up sm) (Nat.le_of_lt (small1000 hnl)) (fun x hx1 v H4 sm4 av NF' NT' j1 j2 => ?_) (fun H4 sm4 hl => ?_)
      · refine ⟨rfl, ?_⟩
        obtain rfl := av.nat
        refine ⟨_, rfl, _, rfl, x, (0 : Int) + i, rfl, rfl, _, rfl, ite2 (fun e => ?_) fun e => ?_⟩
        · exact ⟨_, rfl, j2 (decide_eq_true (by have := of_decide_eq_true e; omega)) _ (.refl _)⟩
        · exact j1 (decide_eq_false fun z => e (decide_eq_true (by omega))) _ (.refl _)
      · refine ⟨D3, _, rfl, .inl (.of hl), ?_⟩
        rw [List.length_map]
        exact k2 rfl _ _ sm4 .of_nat
    · rw [ftrue] at a
      exact q _ _ (sm0.trans sm) a
end
end Pw
end
section
set_option linter.all false
set_option maxRecDepth 100000
set_option maxHeartbeats 2000000
/-! Defs 3: spots. -/
namespace Pw
open PySem PySem.Spec PyProof.Rows L2
/-- a standing, a wish: named, spelled, nothing without what is beneath it -/
theorem two_line : 2 ≤ sizeLine := by decide
def GoodS (l : List Spot) : Prop := ∀ s ∈ l, nameB s.1 = true ∧ wordB s.2 = true ∧ (s.2 ≠ [] → (s.1, s.2.dropLast) ∈ l)
section
variable {P : Program} {w : World} {K : PySem.W.Frag} {mg : Str → Option Value} {base : Heap}
abbrev s_trees_of : Stmt := top 20
theorem sc_trees_of : FnScope ["spots", "tree", "word"] ["spots"] (defScope s_trees_of) := ⟨rfl, rfl, rfl, by decide +kernel, rfl, by decide +kernel, by decide +kernel⟩
def spTreesOf : Sp := fun vs H Q _ => ∃ (S : List Addr) (v : V) (l : List Spot), vs = [v] ∧ At (Hd S H) eSpots v l ∧ Own S H ∧ l.length < 64 ∧ ∀ u H', Same H H' → At (Hd S H') (eList eStr) u (uniq (l.map (·.1))) → Q u H'
theorem ok_trees_of (T : Tx K mg) : FnOk P w K mg base CX0 1 (He.ga K "trees_of") T.fd_trees_of ["spots"] spTreesOf := by
  refine T.F_trees_of.ok sc_trees_of (fun vs H Q E h => ?_) (fun cdv A outer s H vs Q E hr h => ?_)
  · obtain ⟨S, v, l, rfl, _⟩ := h; rfl
  · obtain ⟨S, v, l, rfl, hv, ow, hlen, q⟩ := h
    have hu65 := hu65_of hr
    refine ⟨_, (pss_one (ps_ret (pe_sortSet (skText _ _) in_text sb_str rfl hu65 rfl T.f_sorted rfl T.f_set (pe_lc (own := [("tree", 1), ("word", 2)]) rfl sc_trees_of.nd (k_piL K rfl (pv 0)) (blkOk_by (own := [("tree", 1), ("word", 2)]) (N := ["spots", "tree", "word"]) (sc := (defScope s_trees_of)) (by decide +kernel)) (fun _ _ _ _ _ => (k_pgT K rfl (n := 2) rfl (pgs_cons (pg_name (i := 1) sc_trees_of.nd rfl (Or.inl rfl)) (pgs_cons (pg_name (i := 2) sc_trees_of.nd rfl (Or.inl rfl)) pgs_nil)))) (fun _ _ _ _ _ => pts_nil) (fun _ _ _ _ _ => (pv 1)))))), ?_⟩
    obtain ⟨p, xs, e, hp, hx⟩ := id hv.list
    refine ⟨_, rfl, p, e, ⟨_, .of (Hd_some hp).2⟩, fun D hD => ?_⟩
    refine lc_at (A := eSpot) (B := eStr) (S := S) (fun _ => true) (fun s => s.1) ow hD hp hx (by rw [sizeLine_eq]; omega) (fun x hx1 v H1 sm wD av NF NT k1 k2 => ?_) (fun H1 sm a => ?_)
    · obtain ⟨t, rfl, ht, w1, w2⟩ := av.spot
      refine ⟨t, _, rfl, .of (hd_to _ _ ht), rfl, _, _, rfl, _, _, rfl, rfl, rfl, ?_⟩
      exact ⟨_, rfl, k2 rfl _ _ (.refl _) (.of_str w1)⟩
    · rw [ftrue] at a
      refine ⟨S, _, a, ow.same sm, by rw [List.length_map]; exact hlen, fun p2 xs2 M hp2 up mem am => ?_⟩
      rw [uniq_of up mem] at am
      exact q _ _ (sm.trans (same_up hp2)) am
abbrev s_lacking_of : Stmt := top 21
theorem sc_lacking_of : FnScope ["standing", "wished", "there", "spot"] ["standing", "wished"] (defScope s_lacking_of) := ⟨rfl, rfl, rfl, by decide +kernel, rfl, by decide +kernel, by decide +kernel⟩
def spLackingOf : Sp := fun vs H Q _ => ∃ (S : List Addr) (v v2 : V) (st wi : List Spot), vs = [v, v2] ∧ At (Hd S H) eSpots v st ∧ At (Hd S H) eSpots v2 wi ∧ Own S H ∧ st.length < 64 ∧ wi.length < 64 ∧ ∀ u H', Same H H' → At (Hd S H') eSpots u (lack st wi) → Q u H'
theorem ok_lacking_of (T : Tx K mg) : FnOk P w K mg base CX0 1 (He.ga K "lacking_of") T.fd_lacking_of ["standing", "wished"] spLackingOf := by
  refine T.F_lacking_of.ok sc_lacking_of (fun vs H Q E h => ?_) (fun cdv A outer s H vs Q E hr h => ?_)
  · obtain ⟨S, v, v2, st, wi, rfl, _⟩ := h; rfl
  · obtain ⟨S, v, v2, st, wi, rfl, hv, hv2, ow, hl1, hl2, q⟩ := h
    have hu65 := hu65_of hr
    have hu := hu1_of hr
    refine ⟨_, (pss_cons (ps_set (i := 2) sc_lacking_of.nd rfl (Or.inr rfl) (pe_callTy (call_dictT rfl hu65) rfl T.f_dict (by decide +kernel) (pa_cons (pe_lc (own := [("spot", 3)]) rfl sc_lacking_of.nd (k_piL K rfl (pv 0)) (blkOk_by (own := [("spot", 3)]) (N := ["standing", "wished", "there", "spot"]) (sc := (defScope s_lacking_of)) (by decide +kernel)) (fun _ _ _ _ _ => (pg_name (i := 3) sc_lacking_of.nd rfl (Or.inl rfl))) (fun _ _ _ _ _ => pts_nil) (fun _ _ _ _ _ => (pe_tup (pa_cons (pv 3) (pa_cons pe_bl pa_nil))))) pa_nil)))
      (pss_one (ps_ret (pe_lc (own := [("spot", 3)]) rfl sc_lacking_of.nd (k_piL K rfl (pe_sortSet (skSpot _ _) in_spot sb_spot rfl hu65 rfl T.f_sorted rfl T.f_set (pv 1))) (blkOk_by (own := [("spot", 3)]) (N := ["standing", "wished", "there", "spot"]) (sc := (defScope s_lacking_of)) (by decide +kernel)) (fun _ _ _ _ _ => (pg_name (i := 3) sc_lacking_of.nd rfl (Or.inl rfl))) (fun _ _ _ _ _ => (pts_one (pt_cmp (pc_dnotin hu (pv 3) (pv 2))))) (fun _ _ _ _ _ => (pv 3)))))), ?_⟩
    obtain ⟨p, xs, e, hp, hx⟩ := id hv.list
    refine ⟨_, rfl, p, e, ⟨_, .of (Hd_some hp).2⟩, fun D hD => ?_⟩
    refine lc_at (A := eSpot) (B := ePair eSpot eBool) (S := S) (fun _ => true) (fun s => (s, true)) ow hD hp hx (by rw [sizeLine_eq]; omega) (fun x hx1 v H1 sm wD av NF NT k1 k2 => ?_) (fun H1 sm a => ?_)
    · refine ⟨rfl, ?_⟩
      refine ⟨_, rfl, two_line, fun b hb => ?_⟩
      exact k2 rfl _ _ (same_up hb) (at_newP wD hb av .of_bool)
    · rw [ftrue] at a
      refine ⟨S, _, st, rfl, a, fun d m hd nd mem ml => ?_⟩
      have sm2 : Same H (upd H1 d (.dT (sdct m fun _ => .bl true))) := sm.trans (same_up hd)
      have hdd : upd H1 d (.dT (sdct m fun _ => .bl true)) d = some (.dT (sdct m fun _ => .bl true)) := upd_same
      have ow2 := ow.same sm2
      generalize upd H1 d (.dT (sdct m fun _ => .bl true)) = H2 at sm2 hdd ow2
      refine ⟨_, rfl, S, wi, hv2.up sm2, ow2, hl2, fun p3 xs3 M hp3 up mem3 am => ?_⟩
      rw [uniq_of up mem3] at am
      have sm3 : Same H (upd H2 p3 (.lst xs3)) := sm2.trans (same_up hp3)
      have hdd3 := same_up (o := .lst xs3) hp3 _ _ hdd
      have ow3 := ow.same sm3
      generalize upd H2 p3 (.lst xs3) = H3 at am sm3 hdd3 ow3
      obtain ⟨p4, xs4, e4, hp4, hx4⟩ := id am.list
      cases e4
      refine ⟨p3, rfl, ⟨_, .of (Hd_some hp4).2⟩, fun D5 hD5 => ?_⟩
      have ul : (uniq wi).length ≤ wi.length := nodup_len (uniq_up wi).nodup fun x hx => mem_uniq.mp hx
      refine lc_at (A := eSpot) (B := eSpot) (S := S) (fun s => !decide (s ∈ st)) (fun s => s) ow3 hD5 hp4 hx4 (by rw [sizeLine_eq]; omega) (fun x hx1 v H5 sm5 wD av NF NT k1 k2 => ?_) (fun H5 sm5 a5 => ?_)
      · refine ⟨rfl, ?_⟩
        refine ⟨_, rfl, _, rfl, d, _, rfl, get_spot (sm5 _ _ hdd3) av hd_to, _, rfl, ?_⟩
        have em : (if x ∈ m then some (V.bl true) else none).isSome = decide (x ∈ st) := by
          by_cases h : x ∈ m
          · rw [if_pos h, decide_eq_true ((mem x).mp h)]; rfl
          · rw [if_neg h, decide_eq_false fun z => h ((mem x).mpr z)]; rfl
        rw [em]
        refine ite2 (fun e => ?_) fun e => ?_
        · exact ⟨_, rfl, k2 e _ _ (.refl _) av⟩
        · exact k1 (by simpa using e) _ (.refl _)
      · rw [List.map_id'] at a5
        exact q _ _ (sm3.trans sm5) a5
/-- what dict([(spot, True) for spot in ..]) leaves -/
def ThereD (H : Hp) (d : Addr) (l : List Spot) : Prop := ∃ m, H d = some (.dT (sdct m fun _ => .bl true)) ∧ ∀ s, s ∈ m ↔ s ∈ l
theorem ThereD.same {H H' : Hp} {d : Addr} {l : List Spot} (h : ThereD H d l) (e : Same H H') : ThereD H' d l := let ⟨m, a, b⟩ := h; ⟨m, e _ _ a, b⟩
theorem there_get {G H : Hp} {d : Addr} {l : List Spot} {v : V} {s : Spot} (h : ThereD H d l) (av : At G eSpot v s) (g : Same G H) : ∃ o, DGet H d v o ∧ o.isSome = decide (s ∈ l) := by
  obtain ⟨m, hd, mem⟩ := h
  refine ⟨_, get_spot hd av g, ?_⟩
  by_cases h : s ∈ m
  · rw [if_pos h, decide_eq_true ((mem s).mp h)]; rfl
  · rw [if_neg h, decide_eq_false fun z => h ((mem s).mpr z)]; rfl
abbrev s_closed : Stmt := top 18
theorem sc_closed : FnScope ["spots", "there", "tree", "word", "spot"] ["spots"] (defScope s_closed) := ⟨rfl, rfl, rfl, by decide +kernel, rfl, by decide +kernel, by decide +kernel⟩
def spClosed : Sp := fun vs H Q _ => ∃ (S : List Addr) (v : V) (l : List Spot), vs = [v] ∧ At (Hd S H) eSpots v l ∧ Own S H ∧ l.length < 64 ∧ GoodS l ∧ ∀ H', Same H H' → Q (.bl true) H'
theorem ok_closed (T : Tx K mg) : FnOk P w K mg base CX0 2 (He.ga K "closed") T.fd_closed ["spots"] spClosed := by
  refine T.F_closed.ok sc_closed (fun vs H Q E h => ?_) (fun cdv A outer s H vs Q E hr h => ?_)
  · obtain ⟨S, v, l, rfl, _⟩ := h; rfl
  · obtain ⟨S, v, l, rfl, hv, ow, hlen, good, q⟩ := h
    have hu65 := hu65_of hr
    have hu := hu1_of hr
    refine ⟨_, (pss_cons (ps_set (i := 1) sc_closed.nd rfl (Or.inl rfl) (pe_callTy (call_dictT rfl hu65) rfl T.f_dict (by decide +kernel) (pa_cons (pe_lc (own := [("spot", 4)]) rfl sc_closed.nd (k_piL K rfl (pv 0)) (blkOk_by (own := [("spot", 4)]) (N := ["spots", "there", "tree", "word", "spot"]) (sc := (defScope s_closed)) (by decide +kernel)) (fun _ _ _ _ _ => (pg_name (i := 4) sc_closed.nd rfl (Or.inl rfl))) (fun _ _ _ _ _ => pts_nil) (fun _ _ _ _ _ => (pe_tup (pa_cons (pv 4) (pa_cons pe_bl pa_nil))))) pa_nil)))
      (pss_cons (ps_for PassesOwn.leaving rfl (k_piL K rfl (pv 0)) (k_pgT K rfl (n := 2) rfl (pgs_cons (pg_name (i := 2) sc_closed.nd rfl (Or.inl rfl)) (pgs_cons (pg_name (i := 3) sc_closed.nd rfl (Or.inl rfl)) pgs_nil)))
      (pss_cons (ps_if (PW.pt (pw_or (pt_not (pt_val (pe_call (ok_is_name T) (hr.mono (by decide)) rfl T.g_is_name T.F_is_name.kp (b_is_name T) .nil pass0 (pa_cons (pv 2) pa_nil)))) (pw_or1 (pt_not (pt_val (pe_call (ok_is_word T) (hr.mono (by decide)) rfl T.g_is_word T.F_is_word.kp (b_is_word T) .nil pass0 (pa_cons (pv 3) pa_nil))))))) (pss_one (ps_ret pe_bl)) pss_nil)
      (pss_one (ps_if (PW.pt (pw_and (pt_cmpR op_ne (pv 3) pe_str (nomark _)) (pw_and1 (pt_cmp (pc_dnotin hu (pe_tup (pa_cons (pv 2) (pa_cons (pe_call (ok_beneath T) (hr.mono (by decide)) rfl T.g_beneath T.F_beneath.kp (b_beneath T) .nil pass0 (pa_cons (pv 3) pa_nil)) pa_nil))) (pv 1)))))) (pss_one (ps_ret pe_bl)) pss_nil))))
      (pss_one (ps_ret pe_bl)))), ?_⟩
    obtain ⟨p, xs, e, hp, hx⟩ := id hv.list
    refine ⟨_, rfl, p, e, ⟨_, .of (Hd_some hp).2⟩, fun D hD => ?_⟩
    refine lc_at (A := eSpot) (B := ePair eSpot eBool) (S := S) (fun _ => true) (fun s => (s, true)) ow hD hp hx (by rw [sizeLine_eq]; omega) (fun x hx1 v H1 sm wD av NF NT k1 k2 => ?_) (fun H1 sm a => ?_)
    · refine ⟨rfl, ?_⟩
      refine ⟨_, rfl, two_line, fun b hb => ?_⟩
      exact k2 rfl _ _ (same_up hb) (at_newP wD hb av .of_bool)
    · rw [ftrue] at a
      refine ⟨S, _, l, rfl, a, fun d m hd nd mem ml => ?_⟩
      have sm2 : Same H (upd H1 d (.dT (sdct m fun _ => .bl true))) := sm.trans (same_up hd)
      have hdd : ThereD (upd H1 d (.dT (sdct m fun _ => .bl true))) d l := ⟨m, upd_same, mem⟩
      have ow2 := ow.same sm2
      generalize upd H1 d (.dT (sdct m fun _ => .bl true)) = H2 at sm2 hdd ow2
      refine ⟨_, rfl, p, e, ⟨_, .of (sm2 _ _ (Hd_some hp).2)⟩, ?_⟩
      refine forL (A := eSpot) (S := S) (l := l) (same_hd sm2 _ _ hp) (hx.up sm2) (fun i σ H => ∃ a b c, σ = [some v, some (.ref d), a, b, c] ∧ Same H2 H) ⟨_, _, _, rfl, .refl _⟩ (fun i σ H ⟨_, _, _, _, h⟩ => .of h) (fun i x v3 σ H3 hx3 hP av => ?_) (fun σ H3 hP => ?_)
      · obtain ⟨a1, b1, c1, rfl, sm3⟩ := hP
        obtain ⟨t, rfl, ht, w1, w2⟩ := av.spot
        obtain ⟨g1, g2, g3⟩ := good x (List.mem_of_getElem? hx3)
        refine ⟨t, _, rfl, .of (hd_to _ _ ht), rfl, _, _, rfl, _, _, rfl, rfl, ?_⟩
        refine ⟨_, rfl, x.1, rfl, w1, fun H4 sm4 => ⟨_, rfl, ?_⟩⟩
        rw [g1]
        refine iteF ⟨_, rfl, x.2, rfl, w2, fun H5 sm5 => ⟨_, rfl, ?_⟩⟩
        rw [g2]
        refine iteF ?_
        have sm5' : Same H2 H5 := (sm3.trans sm4).trans sm5
        refine ⟨_, rfl, rfl, _, rfl, ite2 (fun e => ?_) fun e => ?_⟩
        · have hne : x.2 ≠ [] := fun z => by
            rw [z] at e
            exact absurd e (by decide)
          refine ⟨_, rfl, _, rfl, x.2, rfl, w2, two_line, fun b hb => ⟨_, rfl, ?_⟩⟩
          have ak := at_newS (ow2.same sm5') hb w1 (okW_but w2)
          obtain ⟨o, hg, ho⟩ := there_get ((hdd.same sm5').same (same_up hb)) ak hd_to
          refine ⟨d, o, rfl, hg, _, rfl, ?_⟩
          rw [ho, decide_eq_true (g3 hne)]
          exact iteF ⟨_, _, _, rfl, sm5'.trans (same_up hb)⟩
        · exact iteF ⟨_, _, _, rfl, sm5'⟩
      · obtain ⟨a1, b1, c1, rfl, sm3⟩ := hP
        exact q _ (sm2.trans sm3)
end
end Pw
end
section
set_option linter.all false
set_option maxRecDepth 100000
set_option maxHeartbeats 2000000
/-! Defs 4: need_spots, in_way_of, need_free, over_standing. -/
namespace Pw
open PySem PySem.Spec PyProof.Rows L2
section
variable {P : Program} {w : World} {K : PySem.W.Frag} {mg : Str → Option Value} {base : Heap}
abbrev s_need_spots : Stmt := top 19
theorem sc_need_spots : FnScope ["standing", "wished", "there", "tree"] ["standing", "wished"] (defScope s_need_spots) := ⟨rfl, rfl, rfl, by decide +kernel, rfl, by decide +kernel, by decide +kernel⟩
def spNeedSpots : Sp := fun vs H Q _ => ∃ (S : List Addr) (v v2 : V) (st wi : List Spot), vs = [v, v2] ∧ At (Hd S H) eSpots v st ∧ At (Hd S H) eSpots v2 wi ∧ Own S H ∧ st.length < 64 ∧ wi.length < 64 ∧ GoodS st ∧ GoodS wi ∧ (∀ s ∈ wi, ∃ t ∈ st, t.1 = s.1) ∧ ∀ H', Same H H' → Q .non H'
theorem ok_need_spots (T : Tx K mg) : FnOk P w K mg base CX0 3 (He.ga K "need_spots") T.fd_need_spots ["standing", "wished"] spNeedSpots := by
  refine T.F_need_spots.ok sc_need_spots (fun vs H Q E h => ?_) (fun cdv A outer s H vs Q E hr h => ?_)
  · obtain ⟨S, v, v2, st, wi, rfl, _⟩ := h; rfl
  · obtain ⟨S, v, v2, st, wi, rfl, hv, hv2, ow, l1, l2, g1, g2, tr, q⟩ := h
    have hu65 := hu65_of hr
    refine ⟨_, (pss_cons (ps_if (PW.pt (pw_or (pt_not (pt_val (pe_call (ok_closed T) (hr.mono (by decide)) rfl T.g_closed T.F_closed.kp (b_closed T) .nil pass0 (pa_cons (pv 0) pa_nil)))) (pw_or1 (pt_not (pt_val (pe_call (ok_closed T) (hr.mono (by decide)) rfl T.g_closed T.F_closed.kp (b_closed T) .nil pass0 (pa_cons (pv 1) pa_nil))))))) (pss_one ps_never) pss_nil)
      (pss_cons (ps_set (i := 2) sc_need_spots.nd rfl (Or.inl rfl) (pe_call (ok_trees_of T) (hr.mono (by decide)) rfl T.g_trees_of T.F_trees_of.kp (b_trees_of T) .nil pass0 (pa_cons (pv 0) pa_nil)))
      (pss_one (ps_for PassesOwn.leaving rfl (k_piL K rfl (pe_call (ok_trees_of T) (hr.mono (by decide)) rfl T.g_trees_of T.F_trees_of.kp (b_trees_of T) .nil pass0 (pa_cons (pv 1) pa_nil))) (pg_name (i := 3) sc_need_spots.nd rfl (Or.inl rfl))
      (pss_one (ps_if (pt_cmpR (k_notIn K rfl hu65) (pv 3) (pv 2) (by rfl)) (pss_one ps_never) pss_nil)))))), ?_⟩
    refine ⟨_, rfl, S, v, st, rfl, hv, ow, l1, g1, fun H1 sm1 => ⟨_, rfl, iteF ?_⟩⟩
    refine ⟨_, rfl, S, v2, wi, rfl, hv2.up sm1, ow.same sm1, l2, g2, fun H2 sm2 => ⟨_, rfl, iteF ?_⟩⟩
    have sm := sm1.trans sm2
    refine ⟨_, rfl, S, v, st, rfl, hv.up sm, ow.same sm, l1, fun u H3 sm3 hu => ?_⟩
    have sm03 := sm.trans sm3
    refine ⟨_, rfl, S, v2, wi, rfl, hv2.up sm03, ow.same sm03, l2, fun u2 H4 sm4 hu2 => ?_⟩
    have ow4 := ow.same (sm03.trans sm4)
    obtain ⟨p, xs, rfl, hp, hx⟩ := hu2.list
    refine ⟨p, rfl, ⟨_, .of (Hd_some hp).2⟩, ?_⟩
    refine forL (A := eStr) (S := S) (l := uniq (wi.map (·.1))) hp hx (fun i σ H => ∃ a, σ = [some v, some v2, some u, a] ∧ Same H4 H) ⟨_, rfl, .refl _⟩ (fun i σ H ⟨_, _, h⟩ => .of h) (fun i x v3 σ H5 hx5 hP av => ?_) (fun σ H5 hP => ?_)
    · obtain ⟨a, rfl, sm5⟩ := hP
      refine ⟨_, rfl, _, rfl, notin_at av ((hu.up (sm4.trans sm5))) hd_to ?_⟩
      have hm : x ∈ uniq (st.map (·.1)) := by
        obtain ⟨s, hs, rfl⟩ := List.mem_map.mp (mem_uniq.mp (List.mem_of_getElem? hx5))
        obtain ⟨t, ht, e⟩ := tr s hs
        exact mem_uniq.mpr (List.mem_map.mpr ⟨t, ht, e⟩)
      exact ⟨_, rfl, ite2 (fun e => absurd hm (by simpa using e)) fun e => ⟨_, rfl, sm5⟩⟩
    · obtain ⟨a, rfl, sm5⟩ := hP
      exact q _ ((sm03.trans sm4).trans sm5)
abbrev s_in_way_of : Stmt := top 22
theorem sc_in_way_of : FnScope ["standing", "wished", "hoped", "found", "tree", "word", "spot"] ["standing", "wished"] (defScope s_in_way_of) := ⟨rfl, rfl, rfl, by decide +kernel, rfl, by decide +kernel, by decide +kernel⟩
/-- nothing stands in the way -/
def FreeW (st wi : List Spot) : Prop := ∀ s ∈ st, s ∉ wi → s.2 ≠ [] → (s.1, s.2.dropLast) ∉ wi
def spInWayOf : Sp := fun vs H Q _ => ∃ (S : List Addr) (v v2 : V) (st wi : List Spot), vs = [v, v2] ∧ At (Hd S H) eSpots v st ∧ At (Hd S H) eSpots v2 wi ∧ Own S H ∧ st.length < 64 ∧ wi.length < 64 ∧ FreeW st wi ∧ ∀ u H', Same H H' → At (Hd S H') eSpots u [] → Q u H'
theorem ok_in_way_of (T : Tx K mg) : FnOk P w K mg base CX0 2 (He.ga K "in_way_of") T.fd_in_way_of ["standing", "wished"] spInWayOf := by
  refine T.F_in_way_of.ok sc_in_way_of (fun vs H Q E h => ?_) (fun cdv A outer s H vs Q E hr h => ?_)
  · obtain ⟨S, v, v2, st, wi, rfl, _⟩ := h; rfl
  · obtain ⟨S, v, v2, st, wi, rfl, hv, hv2, ow, hl1, hl2, fre, q⟩ := h
    have hu65 := hu65_of hr
    have hu := hu1_of hr
    refine ⟨_, (pss_cons (ps_set (i := 2) sc_in_way_of.nd rfl (Or.inl rfl) (pe_callTy (call_dictT rfl hu65) rfl T.f_dict (by decide +kernel) (pa_cons (pe_lc (own := [("spot", 6)]) rfl sc_in_way_of.nd (k_piL K rfl (pv 1)) (blkOk_by (own := [("spot", 6)]) (N := ["standing", "wished", "hoped", "found", "tree", "word", "spot"]) (sc := (defScope s_in_way_of)) (by decide +kernel)) (fun _ _ _ _ _ => (pg_name (i := 6) sc_in_way_of.nd rfl (Or.inl rfl))) (fun _ _ _ _ _ => pts_nil) (fun _ _ _ _ _ => (pe_tup (pa_cons (pv 6) (pa_cons pe_bl pa_nil))))) pa_nil)))
      (pss_cons (ps_set (i := 3) sc_in_way_of.nd rfl (Or.inl rfl) (pe_lst pa_nil))
      (pss_cons (ps_for PassesOwn.leaving rfl (k_piL K rfl (pe_sortSet (skSpot _ _) in_spot sb_spot rfl hu65 rfl T.f_sorted rfl T.f_set (pv 0))) (k_pgT K rfl (n := 2) rfl (pgs_cons (pg_name (i := 4) sc_in_way_of.nd rfl (Or.inl rfl)) (pgs_cons (pg_name (i := 5) sc_in_way_of.nd rfl (Or.inl rfl)) pgs_nil)))
      (pss_one (ps_if (PW.pt (pw_and (pt_cmp (pc_dnotin hu (pe_tup (pa_cons (pv 4) (pa_cons (pv 5) pa_nil))) (pv 2))) (pw_and (pt_cmpR op_ne (pv 5) pe_str (nomark _)) (pw_and1 (pt_cmp (pc_din hu (pe_tup (pa_cons (pv 4) (pa_cons (pe_call (ok_beneath T) (hr.mono (by decide)) rfl T.g_beneath T.F_beneath.kp (b_beneath T) .nil pass0 (pa_cons (pv 5) pa_nil)) pa_nil))) (pv 2))))))) (pss_one (ps_expr (pe_bm PySem.F.plainAttrs_list PySem.F.slot_list_append PySem.F.type_list_append mt_append (pv 3) (pa_cons (pe_tup (pa_cons (pv 4) (pa_cons (pv 5) pa_nil))) pa_nil)))) pss_nil)))
      (pss_one (ps_ret (pv 3)))))), ?_⟩
    obtain ⟨p, xs, e, hp, hx⟩ := id hv2.list
    refine ⟨_, rfl, p, e, ⟨_, .of (Hd_some hp).2⟩, fun D hD => ?_⟩
    refine lc_at (A := eSpot) (B := ePair eSpot eBool) (S := S) (fun _ => true) (fun s => (s, true)) ow hD hp hx (by rw [sizeLine_eq]; omega) (fun x hx1 v H1 sm wD av NF NT k1 k2 => ?_) (fun H1 sm a => ?_)
    · refine ⟨rfl, ?_⟩
      refine ⟨_, rfl, two_line, fun b hb => ?_⟩
      exact k2 rfl _ _ (same_up hb) (at_newP wD hb av .of_bool)
    · rw [ftrue] at a
      refine ⟨S, _, wi, rfl, a, fun d m hd nd mem ml => ?_⟩
      have sm2 : Same H (upd H1 d (.dT (sdct m fun _ => .bl true))) := sm.trans (same_up hd)
      have hdd : ThereD (upd H1 d (.dT (sdct m fun _ => .bl true))) d wi := ⟨m, upd_same, mem⟩
      have ow2 := ow.same sm2
      generalize upd H1 d (.dT (sdct m fun _ => .bl true)) = H2 at sm2 hdd ow2
      refine ⟨Nat.zero_le _, fun f hf => ?_⟩
      have ow2' : Own S (upd H2 f (.lst [])) := own_up ow2 hf
      have sm2' : Same H (upd H2 f (.lst [])) := sm2.trans (same_up hf)
      have hdd' := hdd.same (same_up (o := .lst []) hf)
      have hff : upd H2 f (.lst []) f = some (.lst []) := upd_same
      have nf : f ∉ S := ow2.new hf
      generalize upd H2 f (.lst []) = H2b at ow2' sm2' hdd' hff
      refine ⟨_, rfl, S, st, hv.up sm2', ow2', hl1, fun p3 xs3 M hp3 up mem3 am => ?_⟩
      rw [uniq_of up mem3] at am
      have sm3 : Same H2b (upd H2b p3 (.lst xs3)) := same_up hp3
      generalize upd H2b p3 (.lst xs3) = H3 at am sm3
      obtain ⟨p4, xs4, e4, hp4, hx4⟩ := id am.list
      cases e4
      refine ⟨p3, rfl, ⟨_, .of (Hd_some hp4).2⟩, ?_⟩
      refine forL (A := eSpot) (S := S) (l := uniq st) hp4 hx4 (fun i σ H => ∃ a b c, σ = [some v, some v2, some (.ref d), some (.ref f), a, b, c] ∧ Same H3 H) ⟨_, _, _, rfl, .refl _⟩ (fun i σ H ⟨_, _, _, _, h⟩ => .of h) (fun i x v3 σ H5 hx5 hP av => ?_) (fun σ H5 hP => ?_)
      · obtain ⟨a1, b1, c1, rfl, sm5⟩ := hP
        obtain ⟨t, rfl, ht, w1, w2⟩ := av.spot
        have sm35 := sm3.trans sm5
        have ow5 := ow2'.same sm35
        refine ⟨t, _, rfl, .of (hd_to _ _ ht), rfl, _, _, rfl, _, _, rfl, rfl, ?_⟩
        refine ⟨_, rfl, _, rfl, two_line, fun b hb => ⟨_, rfl, ?_⟩⟩
        have ak := at_newS ow5 hb w1 w2
        have ow6 := own_up (o := .tup [.str (tx x.1), .str (tx x.2)]) ow5 hb
        have sm6 : Same H5 (upd H5 b (.tup [.str (tx x.1), .str (tx x.2)])) := same_up hb
        generalize upd H5 b (.tup [.str (tx x.1), .str (tx x.2)]) = H6 at ak ow6 sm6
        have sm36 := sm35.trans sm6
        obtain ⟨o, hg, ho⟩ := there_get (hdd'.same sm36) ak hd_to
        refine ⟨d, o, rfl, hg, _, rfl, ?_⟩
        rw [ho]
        have xm : (x.1, x.2) ∈ st := mem_uniq.mp (List.mem_of_getElem? hx5)
        refine ite2 (fun e => ?_) fun e => iteF ⟨_, _, _, rfl, sm5.trans sm6⟩
        refine ⟨_, rfl, rfl, _, rfl, ite2 (fun e2 => ?_) fun e2 => iteF ⟨_, _, _, rfl, sm5.trans sm6⟩⟩
        have hne : x.2 ≠ [] := fun z => by
          rw [z] at e2
          exact absurd e2 (by decide)
        refine ⟨_, rfl, _, rfl, x.2, rfl, w2, two_line, fun b2 hb2 => ⟨_, rfl, ?_⟩⟩
        have ak2 := at_newS ow6 hb2 w1 (okW_but w2)
        obtain ⟨o2, hg2, ho2⟩ := there_get ((hdd'.same sm36).same (same_up hb2)) ak2 hd_to
        refine ⟨d, o2, rfl, hg2, _, rfl, ?_⟩
        rw [ho2, decide_eq_false (fre x xm (by simpa using e) hne)]
        exact iteF ⟨_, _, _, rfl, (sm5.trans sm6).trans (same_up hb2)⟩
      · obtain ⟨a1, b1, c1, rfl, sm5⟩ := hP
        refine ⟨_, rfl, q _ _ (sm2'.trans (sm3.trans sm5)) (.of_list ?_ .nil)⟩
        rw [Hd_at nf]
        exact (sm3.trans sm5) _ _ hff
abbrev s_need_free : Stmt := top 33
theorem sc_need_free : FnScope ["standing", "wished", "limbs"] ["standing", "wished"] (defScope s_need_free) := ⟨rfl, rfl, rfl, by decide +kernel, rfl, by decide +kernel, by decide +kernel⟩
def spNeedFree : Sp := fun vs H Q _ => ∃ (S : List Addr) (v v2 : V) (st wi : List Spot), vs = [v, v2] ∧ At (Hd S H) eSpots v st ∧ At (Hd S H) eSpots v2 wi ∧ Own S H ∧ st.length < 64 ∧ wi.length < 64 ∧ FreeW st wi ∧ ∀ H', Same H H' → Q .non H'
theorem ok_need_free (T : Tx K mg) : FnOk P w K mg base CX0 3 (He.ga K "need_free") T.fd_need_free ["standing", "wished"] spNeedFree := by
  refine T.F_need_free.ok sc_need_free (fun vs H Q E h => ?_) (fun cdv A outer s H vs Q E hr h => ?_)
  · obtain ⟨S, v, v2, st, wi, rfl, _⟩ := h; rfl
  · obtain ⟨S, v, v2, st, wi, rfl, hv, hv2, ow, l1, l2, fre, q⟩ := h
    have hu65 := hu65_of hr
    refine ⟨_, (pss_cons (ps_set (i := 2) sc_need_free.nd rfl (Or.inl rfl) (pe_call (ok_in_way_of T) (hr.mono (by decide)) rfl T.g_in_way_of T.F_in_way_of.kp (b_in_way_of T) .nil pass0 (pa_cons (pv 0) (pa_cons (pv 1) pa_nil))))
      (pss_one (ps_if (pt_cmpR (k_ne K rfl hu65) (pv 2) (pe_lst pa_nil) (nomark _)) (pss_one ps_never) pss_nil))), ?_⟩
    refine ⟨_, rfl, _, rfl, S, v, v2, st, wi, rfl, hv, hv2, ow, l1, l2, fre, fun u H1 sm1 hu => ?_⟩
    refine ⟨_, rfl, Nat.zero_le _, fun p hp => ne_at (A := eSpots) (hu.up (same_up hp)) (at_new (ow.same sm1) hp .nil) hd_to ?_⟩
    exact ⟨_, rfl, iteF (q _ (sm1.trans (same_up hp)))⟩
end
end Pw
end
section
set_option linter.all false
set_option maxRecDepth 100000
set_option maxHeartbeats 2000000
/-! Defs 5: over_standing. -/
namespace Pw
open PySem PySem.Spec PyProof.Rows L2
/-- the first from m on -/
def first (p : Nat → Bool) : Nat → Nat → Nat
  | m, 0 => m
  | m, k + 1 => if p m = true then m else first p (m + 1) k
theorem first_spec (p : Nat → Bool) : ∀ (k m : Nat), p (m + k) = true → m ≤ first p m k ∧ first p m k ≤ m + k ∧ p (first p m k) = true ∧ ∀ j, m ≤ j → j < first p m k → p j = false
  | 0, m, h => ⟨Nat.le_refl _, Nat.le_refl _, h, fun j h1 h2 => absurd h1 (Nat.not_le_of_lt h2)⟩
  | k + 1, m, h => by
    unfold first
    by_cases c : p m = true
    · rw [if_pos c]
      exact ⟨Nat.le_refl _, Nat.le_add_right _ _, c, fun j h1 h2 => absurd h1 (Nat.not_le_of_lt h2)⟩
    · rw [if_neg c]
      obtain ⟨h1, h2, h3, h4⟩ := first_spec p k (m + 1) (by rw [show m + 1 + k = m + (k + 1) by omega]; exact h)
      refine ⟨by omega, by omega, h3, fun j g1 g2 => ?_⟩
      rcases Nat.eq_or_lt_of_le g1 with z | z
      · rw [← z]; simpa using c
      · exact h4 j z g2
/-- how far above what stands -/
def cutAt (s : Spot) (m : Nat) : Spot := (s.1, s.2.take (s.2.length - m))
def dpS (st : List Spot) (s : Spot) : Nat := first (fun m => decide (cutAt s m ∈ st)) 0 s.2.length
theorem dpS_spec {st : List Spot} {s : Spot} (h : (s.1, ([] : W)) ∈ st) : dpS st s ≤ s.2.length ∧ cutAt s (dpS st s) ∈ st ∧ ∀ j, j < dpS st s → cutAt s j ∉ st := by
  obtain ⟨_, h2, h3, h4⟩ := first_spec (fun m => decide (cutAt s m ∈ st)) s.2.length 0 (by
    rw [decide_eq_true_eq]
    unfold cutAt
    rw [Nat.zero_add, Nat.sub_self, List.take_zero]
    exact h)
  exact ⟨by have := h2; unfold dpS; omega, of_decide_eq_true h3, fun j hj => of_decide_eq_false (h4 j (Nat.zero_le _) hj)⟩
theorem take_step {α : Type} {l : List α} {i : Nat} {x : α} (h : l[i]? = some x) : l.take (i + 1) = l.take i ++ [x] := by
  rw [List.take_add_one, h]; rfl
theorem nodup_step {α : Type} {l : List α} {i : Nat} {x : α} (nd : l.Nodup) (h : l[i]? = some x) : x ∉ l.take i := fun z => by
  have n : (l.take (i + 1)).Nodup := nd.sublist (List.take_sublist _ _)
  rw [take_step h, List.nodup_append] at n
  exact n.2.2 x z x (List.mem_singleton.mpr rfl) rfl
section
variable {P : Program} {w : World} {K : PySem.W.Frag} {mg : Str → Option Value} {base : Heap}
abbrev s_over_standing : Stmt := top 23
theorem sc_over_standing : FnScope ["standing", "missing", "there", "found", "tree", "word", "many", "spot"] ["standing", "missing"] (defScope s_over_standing) := ⟨rfl, rfl, rfl, by decide +kernel, rfl, by decide +kernel, by decide +kernel⟩
def spOverStanding : Sp := fun vs H Q _ => ∃ (S : List Addr) (v v2 : V) (st mi : List Spot), vs = [v, v2] ∧ At (Hd S H) eSpots v st ∧ At (Hd S H) eSpots v2 mi ∧ Own S H ∧ st.length < 64 ∧ mi.length < 64 ∧ mi.Nodup ∧ (∀ s ∈ mi, (s.1, ([] : W)) ∈ st) ∧
  ∀ p H', H p = none → Same H H' → H' p = some (.dT (sdct mi fun s => .int (dpS st s : Nat))) → Q (.ref p) H'
theorem ok_over_standing (T : Tx K mg) : FnOk P w K mg base CX0 1 (He.ga K "over_standing") T.fd_over_standing ["standing", "missing"] spOverStanding := by
  refine T.F_over_standing.ok sc_over_standing (fun vs H Q E h => ?_) (fun cdv A outer s H vs Q E hr h => ?_)
  · obtain ⟨S, v, v2, st, mi, rfl, _⟩ := h; rfl
  · obtain ⟨S, v, v2, st, mi, rfl, hv, hv2, ow, hl1, hl2, nd0, roots, q⟩ := h
    have hu65 := hu65_of hr
    have hu := hu1_of hr
    refine ⟨_, (pss_cons (ps_set (i := 2) sc_over_standing.nd rfl (Or.inl rfl) (pe_callTy (call_dictT rfl hu65) rfl T.f_dict (by decide +kernel) (pa_cons (pe_lc (own := [("spot", 7)]) rfl sc_over_standing.nd (k_piL K rfl (pv 0)) (blkOk_by (own := [("spot", 7)]) (N := ["standing", "missing", "there", "found", "tree", "word", "many", "spot"]) (sc := (defScope s_over_standing)) (by decide +kernel)) (fun _ _ _ _ _ => (pg_name (i := 7) sc_over_standing.nd rfl (Or.inl rfl))) (fun _ _ _ _ _ => pts_nil) (fun _ _ _ _ _ => (pe_tup (pa_cons (pv 7) (pa_cons pe_bl pa_nil))))) pa_nil)))
      (pss_cons (ps_set (i := 3) sc_over_standing.nd rfl (Or.inl rfl) pe_dnewT)
      (pss_cons (ps_for PassesOwn.leaving rfl (k_piL K rfl (pv 1)) (k_pgT K rfl (n := 2) rfl (pgs_cons (pg_name (i := 4) sc_over_standing.nd rfl (Or.inl rfl)) (pgs_cons (pg_name (i := 5) sc_over_standing.nd rfl (Or.inl rfl)) pgs_nil)))
      (pss_cons (ps_set (i := 6) sc_over_standing.nd rfl (Or.inl rfl) pe_int)
      (pss_cons (ps_while PassesOwn.leaving (pt_cmp (pc_dnotin hu (pe_tup (pa_cons (pv 4) (pa_cons (pe_slice sl_str (pv 5) po_none (po_some (pe_op op_sub (pe_callB call_len_str rfl T.f_len PySem.boot_len (pa_cons (pv 5) pa_nil)) (pv 6)))) pa_nil))) (pv 2))) (pss_one (ps_aug (i := 6) sc_over_standing.nd rfl (Or.inl rfl) pe_int ip_add)))
      (pss_one (ps_dput hu (pv 3) (pe_tup (pa_cons (pv 4) (pa_cons (pv 5) pa_nil))) (pv 6) rfl)))))
      (pss_one (ps_ret (pv 3)))))), ?_⟩
    obtain ⟨p, xs, e, hp, hx⟩ := id hv.list
    refine ⟨_, rfl, p, e, ⟨_, .of (Hd_some hp).2⟩, fun D hD => ?_⟩
    refine lc_at (A := eSpot) (B := ePair eSpot eBool) (S := S) (fun _ => true) (fun s => (s, true)) ow hD hp hx (by rw [sizeLine_eq]; omega) (fun x hx1 v H1 sm wD av NF NT k1 k2 => ?_) (fun H1 sm a => ?_)
    · refine ⟨rfl, ?_⟩
      refine ⟨_, rfl, two_line, fun b hb => ?_⟩
      exact k2 rfl _ _ (same_up hb) (at_newP wD hb av .of_bool)
    · rw [ftrue] at a
      refine ⟨S, _, st, rfl, a, fun d m hd nd mem ml => ?_⟩
      have sm2 : Same H (upd H1 d (.dT (sdct m fun _ => .bl true))) := sm.trans (same_up hd)
      have hdd : ThereD (upd H1 d (.dT (sdct m fun _ => .bl true))) d st := ⟨m, upd_same, mem⟩
      have ow2 := ow.same sm2
      generalize upd H1 d (.dT (sdct m fun _ => .bl true)) = H2 at sm2 hdd ow2
      intro f hf
      have ow3 : Own (f :: S) (upd H2 f (.dT [])) := own_in ow2 hf
      have av2 : At (Hd (f :: S) (upd H2 f (.dT []))) eSpots v2 mi := (hv2.up sm2).into (same_up hf) hf
      have sm3 : Same H2 (upd H2 f (.dT [])) := same_up hf
      have hdd3 := hdd.same sm3
      have hff : upd H2 f (.dT []) f = some (.dT (sdct (mi.take 0) fun s => V.int (dpS st s : Nat))) := upd_same
      have fn : H f = none := by
        cases z : H f with
        | none => rfl
        | some o => rw [sm2 _ _ z] at hf; cases hf
      have nd' : d ≠ f := fun z => by
        obtain ⟨m', h1, _⟩ := hdd
        rw [z, hf] at h1; cases h1
      generalize upd H2 f (.dT []) = H3 at ow3 av2 sm3 hdd3 hff
      obtain ⟨p2, xs2, e2, hp2, hx2⟩ := id av2.list
      refine ⟨_, rfl, p2, e2, ⟨_, .of (Hd_some hp2).2⟩, ?_⟩
      refine forL (A := eSpot) (S := f :: S) (l := mi) hp2 hx2 (fun i σ H => (∃ a b c z, σ = [some v, some v2, some (.ref d), some (.ref f), a, b, c, z]) ∧ Fz (f :: S) H3 H ∧ H f = some (.dT (sdct (mi.take i) fun s => V.int (dpS st s : Nat))) ∧ Own (f :: S) H ∧ ThereD H d st ∧ Same H2 H) ⟨⟨_, _, _, _, rfl⟩, .refl, hff, ow3, hdd3, sm3⟩ (fun i σ H h => h.2.1) (fun i x v3 σ H5 hx5 hP av => ?_) (fun σ H5 hP => ?_)
      · obtain ⟨⟨a1, b1, c1, z1, rfl⟩, fz, hf5, ow5, hd5, sm5⟩ := hP
        obtain ⟨t, rfl, ht, w1, w2⟩ := av.spot
        refine ⟨t, _, rfl, .of (hd_to _ _ ht), rfl, _, _, rfl, _, _, rfl, rfl, ?_⟩
        obtain ⟨g1, g2, g3⟩ := dpS_spec (roots x (List.mem_of_getElem? hx5))
        refine ⟨fun n σ H => ∃ k, n = dpS st x - k ∧ k ≤ dpS st x ∧ σ = [some v, some v2, some (.ref d), some (.ref f), some (.str (tx x.1)), some (.str (tx x.2)), some (.int (k : Nat)), z1] ∧ Same H5 H, ⟨dpS st x, 0, by simp, Nat.zero_le _, rfl, .refl _⟩, fun n σ H6 hW => ?_⟩
        obtain ⟨k, rfl, hk, rfl, sm6⟩ := hW
        have hk2 : k ≤ x.2.length := Nat.le_trans hk g1
        have ow6 := ow5.same sm6
        refine ⟨_, rfl, _, rfl, _, rfl, _, rfl, okW_line w2, _, rfl, _, _, rfl, rfl, _, rfl, _, rfl, okW_line w2, two_line, ?_⟩
        rw [tx_len, show ((x.2.length : Nat) : Int) - (k : Nat) = ((x.2.length - k : Nat) : Int) by omega, cut_hi]
        intro b hb
        have ak := at_newS ow6 hb w1 (okW_take w2 (x.2.length - k))
        have sm7 : Same H6 (upd H6 b (.tup [.str (tx x.1), .str (tx (x.2.take (x.2.length - k)))])) := same_up hb
        generalize upd H6 b (.tup [.str (tx x.1), .str (tx (x.2.take (x.2.length - k)))]) = H7 at ak sm7
        obtain ⟨o, hg, ho⟩ := there_get ((hd5.same sm6).same sm7) ak hd_to
        refine ⟨_, rfl, d, o, rfl, hg, _, rfl, ?_⟩
        rw [ho]
        refine ite2 (fun e => ?_) fun e => ?_
        · have nst : cutAt x k ∉ st := by
            unfold cutAt
            simpa using e
          have klt : k < dpS st x := by
            rcases Nat.lt_or_ge k (dpS st x) with z | z
            · exact z
            · exact absurd (by rw [Nat.le_antisymm hk z]; exact g2) nst
          refine ⟨fun σ H => σ = [some v, some v2, some (.ref d), some (.ref f), some (.str (tx x.1)), some (.str (tx x.2)), some (.int ((k + 1 : Nat) : Int)), z1] ∧ Same H5 H, fun σ' H' ⟨h1, h2⟩ => ⟨dpS st x - (k + 1), by omega, k + 1, rfl, by omega, h1, h2⟩, ?_⟩
          refine ⟨_, rfl, _, _, rfl, rfl, rfl, sm6.trans sm7⟩
        · have keq : k = dpS st x := by
            rcases Nat.lt_or_ge k (dpS st x) with z | z
            · exact absurd (by
                have := g3 k z
                unfold cutAt at this
                simpa using this) e
            · exact Nat.le_antisymm hk z
          have hfn2 := sm7 _ _ (sm6 _ _ hf5)
          have hdf : ThereD H7 d st := (hd5.same sm6).same sm7
          refine ⟨_, rfl, _, rfl, _, rfl, _, rfl, two_line, fun b2 hb2 => ?_⟩
          have nb : b2 ≠ f := fun z => by rw [z, hfn2] at hb2; cases hb2
          have sm8 : Same H7 (upd H7 b2 (.tup [.str (tx x.1), .str (tx x.2)])) := same_up hb2
          refine ⟨f, _, rfl, .t (k := skey x) (sm8 _ _ hfn2) upd_same (by rw [List.length_map, List.length_take, sizeLine_eq]; omega), ?_⟩
          have n5 := nodup_step nd0 hx5
          have pk : putK (sdct (mi.take i) fun s => V.int (dpS st s : Nat)) (skey x) (V.int (k : Nat)) = sdct (mi.take (i + 1)) fun s => V.int (dpS st s : Nat) := by
            rw [putK_new _ (by rw [sdct_val, if_neg n5]), take_step hx5, keq]
            simp [sdct]
          rw [pk]
          have fz8 : Fz (f :: S) H3 (upd H7 b2 (.tup [.str (tx x.1), .str (tx x.2)])) := fz.trans (.of ((sm6.trans sm7).trans sm8))
          refine ⟨⟨_, _, _, _, rfl⟩, fz8.trans (fz_upd List.mem_cons_self), upd_same, ((ow6.same sm7).same sm8).kp .upd, ?_, fun b y e => ?_⟩
          · obtain ⟨m', h1, h2⟩ := hdf.same sm8
            exact ⟨m', by rw [upd_ne nd']; exact h1, h2⟩
          · by_cases z : b = f
            · rw [z, hf] at e; cases e
            · rw [upd_ne z]; exact sm8 _ _ (sm7 _ _ (sm6 _ _ (sm5 _ _ e)))
      · obtain ⟨⟨a1, b1, c1, z1, rfl⟩, fz, hf5, ow5, hd5, sm5⟩ := hP
        rw [List.take_length] at hf5
        exact ⟨_, rfl, q f H5 fn (sm2.trans sm5) hf5⟩
end
end Pw
end
section
set_option linter.all false
set_option maxRecDepth 100000
set_option maxHeartbeats 2000000
/-! Rules 7: len by an own __len__, enumerate over data. -/
namespace Pw
open PySem PySem.Spec PySem.Calls Builtin PyProof.Rows L2
section
variable {X : Cx} {CX : CXT} {k : Nat} {f C : Addr} {fd : FuncData} {ps : List Str} {sp : Sp} {E : XK}
def rLenI (C : Addr) (sp : Sp) (E : XK) : List V → Hp → VK → Prop := fun xs H Q => ∃ a dx fs, xs = [.ref a] ∧ H a = some (.ins C dx fs) ∧ sp [.ref a] H (fun v H' => ∃ n : Nat, v = .int n ∧ n ≤ sizeLine ∧ Q v H') E
theorem call_lenOwn (hm : Meth X.K C "__len__" f) (F : FnOk X.prog X.w X.K X.mg X.base CX k f fd ps sp) (hr : Room (k + 1) X.A) (hb : Binds X.K fd ps []) (hx : Passes CX X E) : CallR X (.builtin "len") (rLenI C sp E) := by
  intro pins s σ H xs us Q I r h
  obtain ⟨a, dx, fs, rfl, ea, q⟩ := h
  obtain ⟨u, rfl, rx⟩ := vals1 r
  obtain rfl : u = Value.ref a := rx
  obtain ⟨mA, O, _, _, _, _⟩ := ins_get I.hok ea
  obtain ⟨od, ia, _⟩ := O.look
  have hl := line63
  have step : wpAny (model X.prog X.w) X.A.in1 (call (.ref f) [.ref a]) (fun v s' => ∃ (n : Nat) (t : Tok), v = .int n t ∧ n ≤ sizeLine ∧ ∀ t2 tk, EP X pins σ Q (.int n t2) { s' with toks := tk }) X.xe s := by
    have hlen : ([Value.ref a] ++ []).length = ps.length := (F.len _ _ _ _ q)
    refine wpAny_call (codeAny_mono (F.run X.A.in1 X.stack s H ⟨[.ref a], []⟩ ([.ref a] ++ []) [.ref a] _ E hr.in1 I.env0.in1 (hb s [.ref a] I.kIn hlen) (show Vals [V.ref a] ([Value.ref a] ++ []) from .cons rfl .nil) q) fun r s' hq => ?_)
    cases r with
    | error e => exact hx pins σ H s e s' I hq
    | ok fl =>
      cases fl with
      | ret u =>
        obtain ⟨v, H', I2, rv, n, rfl, hn, q2⟩ := I.after hq
        obtain ⟨t, rfl⟩ := rv
        exact ⟨n, t, rfl, hn, fun t2 tk => ⟨.int n, H', I2.tok _, ⟨t2, rfl⟩, q2⟩⟩
      | next => exact False.elim hq
      | brk => exact False.elim hq
      | cont => exact False.elim hq
  refine Calls.call_function_entry kind_len plain_len entry_len (args_len1 _) ?_
  unfold Builtin.«len»
  refine wpAny_bind (m := oneArg "len" _) (wpAny_pure ?_)
  refine wpAny_bind (m := callSpecial? (.ref a) (Str.ofString "__len__")) (PySem.W.special_fn I.kIn ia hm.at_ (beq_iff_eq.mp hm.fn) (wpAny_mono step (fun r s' hr => ?_) fun _ _ y => y))
  obtain ⟨n, t, rfl, hn, q2⟩ := hr
  refine wpAny_bind (wpAny_holding (wpAny_pure ?_))
  refine wpAny_bind (wpAny_letGo ?_)
  show wpAny _ _ (if ((n : Nat) : Int) < 0 then _ else _) _ _ _
  rw [if_neg (by omega)]
  show wpAny _ _ (if ((n : Nat) : Int) ≥ 2 ^ 63 then _ else _) _ _ _
  rw [if_neg (by omega)]
  exact wpAny_bind (wpAny_mkInt (wpAny_pure ⟨_, rfl, q2 _ _⟩))
end
section
variable {K : Fg} {S : List Addr} {H : Hp} {α : Type} [LT α] [STO α] [DecidableEq α] [DecidableLT α] {A : Enc α} {v : V} {l : List α}
/-- for i, x in enumerate(list): what holds before turn i -/
theorem forE {a : Addr} {xs : List V} {g : TG} {tb : TS} {D : Ends} {σ : L2.St} {H0 : Hp} (ha : Hd S H0 a = some (.lst xs)) (hx : Ats (Hd S H0) A xs l) (Pv : Nat → L2.St → Hp → Prop) (h0 : Pv 0 σ H0) (hs : ∀ i σ H, Pv i σ H → Fz S H0 H)
    (turn : ∀ i x v σ H T, l[i]? = some x → Pv i σ H → At (Hd S H) A v x → H T = none → g (.ref T) σ (upd H T (.tup [.int (i : Nat), v])) fun σ2 H2 => tb { D with nx := Pv (i + 1), ct := Pv (i + 1), bk := D.nx } σ2 H2) (done : ∀ σ H, Pv l.length σ H → D.nx σ H) :
    ∃ W : Nat → Nat → L2.St → Hp → Prop, (∃ m, W 0 m σ H0) ∧ ∀ i m σ H, W i m σ H →
      ((Ite K a).stop i H ∧ D.nx σ H) ∨ ((Ite K a).go i H ∧ ∃ N : L2.St → Hp → Prop, (∀ σ' H', N σ' H' → ∃ m', m' < m ∧ W (i + 1) m' σ' H') ∧ ∀ x H', (Ite K a).yld i H x H' → g x σ H' fun σ2 H2 => tb { D with nx := N, ct := N, bk := D.nx } σ2 H2) := by
  have nS := (Hd_some ha).1
  have ll := hx.len
  refine for_it (walk_enum (K := K) (a := a) (xs := xs)) Pv h0 (fun i σ H _ p => .of ((hs i σ H p) _ _ nS (Hd_some ha).2)) (fun i x σ H H' hi p y => ?_) (fun σ H p => done σ H (by rw [← ll]; exact p))
  obtain ⟨T, y1, y2, rfl, hT, rfl, e1, e2⟩ := y
  injection e1 with e1
  subst e1
  obtain ⟨z, hz, az⟩ := hx.at e2
  exact turn i z y2 σ H T hz p (az.same (hs i σ H p).hd) hT
end
end Pw
end
section
set_option linter.all false
set_option maxRecDepth 100000
set_option maxHeartbeats 2000000
/-! Defs 6: Plan, season_good, fault_of. -/
namespace Pw
open PySem PySem.Spec PyProof.Rows L2
section
variable {P : Program} {w : World} {K : PySem.W.Frag} {mg : Str → Option Value} {base : Heap}
instance ltSeas : DecidableLT (List (List Spot)) := fun a b => List.decidableLT a b
instance ltPlans : DecidableLT (List (List (List Spot))) := fun a b => List.decidableLT a b
abbrev ePl : Enc (List (List Spot)) := eList eSpots
/-- a plan stands at p -/
def PlanAt (K : Fg) (S : List Addr) (H : Hp) (p : Addr) (ss : List (List Spot)) : Prop := p ∉ S ∧ ∃ dx u, H p = some (.ins (He.ga K "Plan") dx [("steps", u)]) ∧ At (Hd S H) ePl u ss
theorem PlanAt.fz {S : List Addr} {H H' : Hp} {p : Addr} {ss : List (List Spot)} (h : PlanAt K S H p ss) (e : Fz S H H') : PlanAt K S H' p ss := by
  obtain ⟨n, dx, u, h1, h2⟩ := h
  exact ⟨n, dx, u, e _ _ n h1, h2.same e.hd⟩
theorem PlanAt.same {S : List Addr} {H H' : Hp} {p : Addr} {ss : List (List Spot)} (h : PlanAt K S H p ss) (e : Same H H') : PlanAt K S H' p ss := h.fz (.of e)
abbrev s_Plan_init : Stmt := inClass (top 31) 0
theorem sc_Plan_init : FnScope ["self", "seasons", "season"] ["self", "seasons"] (defScope s_Plan_init) := ⟨rfl, rfl, rfl, by decide +kernel, rfl, by decide +kernel, by decide +kernel⟩
def spPlanInit : Sp := fun vs H Q _ => ∃ (S : List Addr) (x dx : Addr) (v : V) (ss : List (List Spot)), vs = [.ref x, v] ∧ H x = some (.ins (He.ga K "Plan") dx []) ∧ x ∈ S ∧ Own S H ∧ At (Hd S H) ePl v ss ∧ ss.length ≤ 1000 ∧
  ∀ H1 u, Same H H1 → At (Hd S H1) ePl u ss → Q .non (upd H1 x (.ins (He.ga K "Plan") dx [("steps", u)]))
theorem ok_Plan_init (T : Tx K mg) : FnOk P w K mg base CX0 1 (He.ma K (He.ga K "Plan") "__init__") T.fd_Plan_init ["self", "seasons"] (spPlanInit (K := K)) := by
  refine T.F_Plan_init.ok sc_Plan_init (fun vs H Q E h => ?_) (fun cdv A outer s H vs Q E hr h => ?_)
  · obtain ⟨S, x, dx, v, ss, rfl, _⟩ := h; rfl
  · obtain ⟨S, x, dx, v, ss, rfl, hx0, hxS, ow, hv, hl, q⟩ := h
    have hu65 := hu65_of hr
    have hu := hu1_of hr
    refine ⟨_, (pss_one (ps_fld (pv 0) (pe_lc (own := [("season", 2)]) rfl sc_Plan_init.nd (k_piL K rfl (pe_orT (pv 1) (pe_one (pe_lst pa_nil)))) (blkOk_by (own := [("season", 2)]) (N := ["self", "seasons", "season"]) (sc := (defScope s_Plan_init)) (by decide +kernel)) (fun _ _ _ _ _ => (pg_name (i := 2) sc_Plan_init.nd rfl (Or.inl rfl))) (fun _ _ _ _ _ => pts_nil) (fun _ _ _ _ _ => (pe_callTy (k_listOf K rfl) rfl T.f_list (by decide +kernel) (pa_cons (pv 2) pa_nil)))) rfl)), ?_⟩
    obtain ⟨p, xs, rfl, hp, hx⟩ := id hv.list
    have walk : ∀ (H0 : Hp) (p0 : Addr) (ys : List V) (D : Addr) (Z : Hp → Prop), Same H H0 → Hd S H0 p0 = some (.lst ys) → Ats (Hd S H0) eSpots ys ss → H0 D = none → (∀ H1, Same H0 H1 → At (Hd S H1) ePl (.ref D) ss → Z H1) → _ := fun H0 p0 ys D Z sm0 hp0 hx0 hD hZ =>
      lc_at (K := K) (A := eSpots) (B := eSpots) (S := S) (g := gName 2) (tt := tYes) (te := tCB (rListOf K) (tCons (tVar 2) tNil)) (σ := start ["self", "seasons", "season"] [.ref x, .ref p]) (vs := List.map (fun x => x.snd) [(Str.ofString "season", 2)]) (Qd := Z) (fun _ => true) (fun l => l) (ow.same sm0) hD hp0 hx0 (by rw [sizeLine_eq]; omega) (fun l hl1 v H1 sm wD av NF NT k1 k2 => by
        obtain ⟨p1, zs, rfl, hp1, hz⟩ := id av.list
        refine ⟨rfl, _, rfl, p1, zs, rfl, .inl (.of (Hd_some hp1).2), fun l1 hl1 => ?_⟩
        exact k2 rfl _ _ (same_up hl1) (at_new wD hl1 hz)) (fun H1 sm a => hZ H1 sm (by rw [ftrue, List.map_id'] at a; exact a))
    refine ⟨_, rfl, !xs.isEmpty, .inl ⟨xs, .of (Hd_some hp).2, rfl⟩, ?_⟩
    cases xs with
    | nil =>
      obtain rfl : ss = [] := List.eq_nil_of_length_eq_zero (by rw [← hx.len]; rfl)
      refine iteF ⟨Nat.zero_le _, fun p2 hp2 => ⟨p2, rfl, ⟨[], .of upd_same⟩, fun D hD => ?_⟩⟩
      refine walk _ p2 [] D _ (same_up hp2) ?_ .nil hD fun H1 sm a => ⟨_, rfl, x, _, dx, [], rfl, sm _ _ (same_up hp2 _ _ hx0), T.c_Plan, T.n_Plan_steps, by decide, q _ _ ((same_up hp2).trans sm) a⟩
      rw [Hd_at (ow.new hp2)]
      exact upd_same
    | cons y ys =>
      refine iteT ⟨p, rfl, ⟨_, .of (Hd_some hp).2⟩, fun D hD => ?_⟩
      exact walk _ p _ D _ (.refl _) hp hx hD fun H1 sm a => ⟨_, rfl, x, _, dx, [], rfl, sm _ _ hx0, T.c_Plan, T.n_Plan_steps, by decide, q _ _ sm a⟩
theorem b_Plan_init (T : Tx K mg) : Binds K T.fd_Plan_init (["self", "seasons"] : List Str) [] := by
  obtain ⟨ds, h1, h2⟩ := T.F_Plan_init.binds1 (ps := ["self", "seasons"]) 2 1 (by simp) rfl fun D kV doc pm an cdv ct us its hl hi => match us, its, hl, hi with
    | [_, _], [_], _, _ => ⟨_, rfl, rfl⟩
  cases h1
  exact h2
/-- Plan(v) -/
theorem mk_plan {S : List Addr} {H : Hp} {v : V} {ss : List (List Spot)} {Q : Addr → Hp → Prop} {E : XK} (ow : Own S H) (hv : At (Hd S H) ePl v ss) (hl : ss.length ≤ 1000) (q : ∀ p H', Same H H' → PlanAt K S H' p ss → Q p H') :
    ∀ x dx, H x = none → H dx = none → dx ≠ x → spPlanInit (K := K) (.ref x :: [v]) (upd (upd H dx (.own x)) x (.ins (He.ga K "Plan") dx [])) (fun v H2 => v = .non ∧ Q x H2) E := fun x dx hx hdx ne => by
  have s1 : Same H (upd H dx (.own x)) := same_up hdx
  have hx1 : upd H dx (.own x) x = none := by rw [upd_ne (fun z => ne z.symm)]; exact hx
  have s2 : Same (upd H dx (.own x)) (upd (upd H dx (.own x)) x (.ins (He.ga K "Plan") dx [])) := same_up hx1
  have sm := s1.trans s2
  have ow2 : Own (x :: S) (upd (upd H dx (.own x)) x (.ins (He.ga K "Plan") dx [])) := own_in (ow.same s1) hx1
  have hv2 : At (Hd (x :: S) (upd (upd H dx (.own x)) x (.ins (He.ga K "Plan") dx []))) ePl v ss := (hv.up s1).into s2 hx1
  refine ⟨x :: S, x, dx, v, ss, rfl, upd_same, List.mem_cons_self, ow2, hv2, hl, fun H1 u sm1 au => ⟨rfl, q x _ (fun b o e => ?_) ⟨fun z => ow x z hx, dx, u, upd_same, ?_⟩⟩⟩
  · have n : b ≠ x := fun z => by rw [z, hx] at e; cases e
    rw [upd_ne n]
    exact sm1 _ _ (sm _ _ e)
  · rw [← hd_upd (l := x) (o := .ins (He.ga K "Plan") dx [("steps", u)]) List.mem_cons_self] at au
    exact au.same (hd_out fun b hb => List.mem_cons_of_mem _ hb)
abbrev s_Plan_len : Stmt := inClass (top 31) 1
theorem sc_Plan_len : FnScope ["self"] ["self"] (defScope s_Plan_len) := ⟨rfl, rfl, rfl, by decide +kernel, rfl, by decide +kernel, by decide +kernel⟩
def spPlanLen : Sp := fun vs H Q _ => ∃ (S : List Addr) (x : Addr) (ss : List (List Spot)), vs = [.ref x] ∧ PlanAt K S H x ss ∧ Q (.int (ss.length : Nat)) H
theorem ok_Plan_len (T : Tx K mg) : FnOk P w K mg base CX0 1 (He.ma K (He.ga K "Plan") "__len__") T.fd_Plan_len ["self"] (spPlanLen (K := K)) := by
  refine T.F_Plan_len.ok sc_Plan_len (fun vs H Q E h => ?_) (fun cdv A outer s H vs Q E hr h => ?_)
  · obtain ⟨S, x, ss, rfl, _⟩ := h; rfl
  · obtain ⟨S, x, ss, rfl, ⟨hn, dx, u, hx, hu⟩, q⟩ := h
    refine ⟨_, (pss_one (ps_ret (pe_callB (k_len K rfl) rfl T.f_len PySem.boot_len (pa_cons (k_fld K rfl (pv 0) rfl) pa_nil)))), ?_⟩
    obtain ⟨p, xs, rfl, hp, hxs⟩ := id hu.list
    refine ⟨_, rfl, x, _, dx, _, _, rfl, hx, T.c_Plan, T.n_Plan_steps, rfl, p, xs, rfl, .inl (.of (Hd_some hp).2), ?_⟩
    rw [hxs.len]
    exact q
abbrev s_Plan_seasons : Stmt := inClass (top 31) 5
theorem sc_Plan_seasons : FnScope ["self", "season"] ["self"] (defScope s_Plan_seasons) := ⟨rfl, rfl, rfl, by decide +kernel, rfl, by decide +kernel, by decide +kernel⟩
def spSeasons : Sp := fun vs H Q _ => ∃ (S : List Addr) (x : Addr) (ss : List (List Spot)), vs = [.ref x] ∧ PlanAt K S H x ss ∧ Own S H ∧ ss.length ≤ 1000 ∧ ∀ u H', Same H H' → At (Hd S H') ePl u ss → Q u H'
theorem ok_Plan_seasons (T : Tx K mg) : FnOk P w K mg base CX0 1 (He.ma K (He.ga K "Plan") "seasons") T.fd_Plan_seasons ["self"] (spSeasons (K := K)) := by
  refine T.F_Plan_seasons.ok sc_Plan_seasons (fun vs H Q E h => ?_) (fun cdv A outer s H vs Q E hr h => ?_)
  · obtain ⟨S, x, ss, rfl, _⟩ := h; rfl
  · obtain ⟨S, x, ss, rfl, ⟨hn, dx, u, hx, hu⟩, ow, hl, q⟩ := h
    refine ⟨_, (pss_one (ps_ret (pe_lc (own := [("season", 1)]) rfl sc_Plan_seasons.nd (k_piL K rfl (k_fld K rfl (pv 0) rfl)) (blkOk_by (own := [("season", 1)]) (N := ["self", "season"]) (sc := (defScope s_Plan_seasons)) (by decide +kernel)) (fun _ _ _ _ _ => (pg_name (i := 1) sc_Plan_seasons.nd rfl (Or.inl rfl))) (fun _ _ _ _ _ => pts_nil) (fun _ _ _ _ _ => (pe_callTy (k_listOf K rfl) rfl T.f_list (by decide +kernel) (pa_cons (pv 1) pa_nil)))))), ?_⟩
    obtain ⟨p, xs, rfl, hp, hxs⟩ := id hu.list
    refine ⟨_, rfl, x, _, dx, _, _, rfl, hx, T.c_Plan, T.n_Plan_steps, rfl, p, rfl, ⟨_, .of (Hd_some hp).2⟩, fun D hD => ?_⟩
    refine lc_at (A := eSpots) (B := eSpots) (S := S) (fun _ => true) (fun l => l) ow hD hp hxs (by rw [sizeLine_eq]; omega) (fun l hl1 v H1 sm wD av NF NT k1 k2 => ?_) (fun H1 sm a => ?_)
    · obtain ⟨p1, zs, rfl, hp1, hz⟩ := id av.list
      refine ⟨rfl, _, rfl, p1, zs, rfl, .inl (.of (Hd_some hp1).2), fun l1 hl1 => ?_⟩
      exact k2 rfl _ _ (same_up hl1) (at_new wD hl1 hz)
    · rw [ftrue, List.map_id'] at a
      exact q _ _ sm a
def parS (s : Spot) : Spot := (s.1, s.2.dropLast)
def SG (st mi : List Spot) (k : Nat) (l : List Spot) : Prop := l ≠ [] ∧ l.length ≤ k ∧ Up l ∧ ∀ s ∈ l, s ∈ mi ∧ s ∉ st ∧ parS s ∈ st
abbrev s_season_good : Stmt := top 35
theorem sc_season_good : FnScope ["season", "there", "missing", "sap", "at", "spot", "tree", "word"] ["season", "there", "missing", "sap"] (defScope s_season_good) := ⟨rfl, rfl, rfl, by decide +kernel, rfl, by decide +kernel, by decide +kernel⟩
def spSeasonGood : Sp := fun vs H Q _ => ∃ (S : List Addr) (v : V) (d1 d2 : Addr) (st mi l : List Spot) (k : Nat), vs = [v, .ref d1, .ref d2, .int k] ∧ At (Hd S H) eSpots v l ∧ Own S H ∧ l.length ≤ 1000 ∧ ThereD H d1 st ∧ ThereD H d2 mi ∧
  ∀ b H', (b = true ↔ SG st mi k l) → Same H H' → Q (.bl b) H'
theorem ok_season_good (T : Tx K mg) : FnOk P w K mg base CX0 2 (He.ga K "season_good") T.fd_season_good ["season", "there", "missing", "sap"] spSeasonGood := by
  refine T.F_season_good.ok sc_season_good (fun vs H Q E h => ?_) (fun cdv A outer s H vs Q E hr h => ?_)
  · obtain ⟨S, v, d1, d2, st, mi, l, k, rfl, _⟩ := h; rfl
  · obtain ⟨S, v, d1, d2, st, mi, l, k, rfl, hv, ow, hl, hd1, hd2, q⟩ := h
    have hu65 := hu65_of hr
    have hu := hu1_of hr
    refine ⟨_, (pss_cons (ps_if (PW.pt (pw_or (pt_cmpR op_eq (pe_callB (k_len K rfl) rfl T.f_len PySem.boot_len (pa_cons (pv 0) pa_nil)) pe_int (nomark _)) (pw_or1 (pt_cmpR op_gt (pe_callB (k_len K rfl) rfl T.f_len PySem.boot_len (pa_cons (pv 0) pa_nil)) (pv 3) (nomark _))))) (pss_one (ps_ret pe_bl)) pss_nil)
      (pss_cons (ps_for PassesOwn.leaving rfl (pi_enum (by rfl) T.f_enumerate (pa_cons (pv 0) pa_nil)) (k_pgT K rfl (n := 2) rfl (pgs_cons (pg_name (i := 4) sc_season_good.nd rfl (Or.inl rfl)) (pgs_cons (pg_name (i := 5) sc_season_good.nd rfl (Or.inl rfl)) pgs_nil)))
      (pss_cons (ps_asg (pv 5) (k_pgT K rfl (n := 2) rfl (pgs_cons (pg_name (i := 6) sc_season_good.nd rfl (Or.inl rfl)) (pgs_cons (pg_name (i := 7) sc_season_good.nd rfl (Or.inl rfl)) pgs_nil))))
      (pss_cons (ps_if (PW.pt (pw_or (pt_cmp (pc_dnotin hu (pv 5) (pv 2))) (pw_or (pt_cmp (pc_din hu (pv 5) (pv 1))) (pw_or1 (pt_cmp (pc_dnotin hu (pe_tup (pa_cons (pv 6) (pa_cons (pe_call (ok_beneath T) (hr.mono (by decide)) rfl T.g_beneath T.F_beneath.kp (b_beneath T) .nil pass0 (pa_cons (pv 7) pa_nil)) pa_nil))) (pv 1))))))) (pss_one (ps_ret pe_bl)) pss_nil)
      (pss_one (ps_if (PW.pt (pw_and (pt_cmpR op_gt (pv 4) pe_int (nomark _)) (pw_and1 (pt_not (pt_cmpR (op_ltA (A := eSpot) (fun _ h => nomatch h) hu65) (pe_ix (k_ixL K rfl) (pv 0) (pe_op op_sub (pv 4) pe_int) (fun _ _ => rfl)) (pv 5) (nomark _)))))) (pss_one (ps_ret pe_bl)) pss_nil)))))
      (pss_one (ps_ret pe_bl)))), ?_⟩
    obtain ⟨p, xs, rfl, hp, hxs⟩ := id hv.list
    have ll := hxs.len
    refine ⟨_, rfl, p, xs, rfl, .inl (.of (Hd_some hp).2), rfl, _, rfl, ite2 (fun e => ?_) fun e => ?_⟩
    · have e1 : (xs.length : Int) = 0 := V.int.inj (of_decide_eq_true e)
      have e2 : l = [] := List.eq_nil_of_length_eq_zero (by omega)
      exact iteT (q false H ⟨(fun z => nomatch z), fun z => absurd e2 z.1⟩ (.refl _))
    · have e0 : l ≠ [] := fun z => e (decide_eq_true (congrArg V.int (by rw [ll, z]; rfl)))
      refine ⟨_, rfl, p, xs, rfl, .inl (.of (Hd_some hp).2), _, rfl, _, _, rfl, rfl, _, rfl, ite2 (fun e1 => ?_) fun e1 => ?_⟩
      · have e1 := of_decide_eq_true e1
        exact q false H ⟨(fun z => nomatch z), fun z => by have := z.2.1; omega⟩ (.refl _)
      · have lk : l.length ≤ k := by
          have : ¬ ((k : Int) < (xs.length : Nat)) := fun z => e1 (decide_eq_true z)
          omega
        refine ⟨_, rfl, p, xs, rfl, .of (Hd_some hp).2, ?_⟩
        refine forE (A := eSpot) (S := S) (l := l) hp hxs (fun i σ H1 => (∃ a b c d, σ = [some (.ref p), some (.ref d1), some (.ref d2), some (.int k), a, b, c, d]) ∧ Same H H1 ∧ Up (l.take i) ∧ ∀ s ∈ l.take i, s ∈ mi ∧ s ∉ st ∧ parS s ∈ st) ⟨⟨_, _, _, _, rfl⟩, .refl _, .nil, fun s h => nomatch h⟩ (fun i σ H h => .of h.2.1) (fun i x v3 σ H5 TT hx5 hP av hT => ?_) (fun σ H5 hP => ?_)
        · obtain ⟨⟨a1, b1, c1, z1, rfl⟩, sm5, up5, al5⟩ := hP
          have smT : Same H5 (upd H5 TT (.tup [.int (i : Nat), v3])) := same_up hT
          have av6 := av.up smT
          have tt6 : SqT K (upd H5 TT (.tup [.int (i : Nat), v3])) TT [.int (i : Nat), v3] := .of upd_same
          generalize upd H5 TT (.tup [.int (i : Nat), v3]) = H6 at smT av6 tt6
          have sm6 := sm5.trans smT
          obtain ⟨t, rfl, ht, w1, w2⟩ := av6.spot
          have hmem := List.mem_of_getElem? hx5
          refine ⟨TT, _, rfl, tt6, rfl, _, _, rfl, _, _, rfl, rfl, ?_⟩
          refine ⟨_, rfl, t, _, rfl, .of (hd_to _ _ ht), rfl, _, _, rfl, _, _, rfl, rfl, ?_⟩
          obtain ⟨o2, hg2, ho2⟩ := there_get (hd2.same sm6) av6 hd_to
          obtain ⟨o1, hg1, ho1⟩ := there_get (hd1.same sm6) av6 hd_to
          have bad : ∀ H', Same H6 H' → ¬ (x ∈ mi ∧ x ∉ st ∧ parS x ∈ st) → Q (.bl false) H' := fun H' sm' z => q false H' ⟨(fun z => nomatch z), fun y => absurd (y.2.2.2 x hmem) z⟩ (sm6.trans sm')
          refine ⟨_, rfl, _, rfl, d2, o2, rfl, hg2, _, rfl, ?_⟩
          rw [ho2]
          refine ite2 (fun e2 => iteT (bad _ (.refl _) fun z => ?_)) fun e2 => ?_
          · rw [decide_eq_true z.1] at e2; cases e2
          · have m1 : x ∈ mi := by
              by_cases z : x ∈ mi
              · exact z
              · exact absurd (by rw [decide_eq_false z]; rfl) e2
            refine ⟨_, rfl, _, rfl, d1, o1, rfl, hg1, _, rfl, ?_⟩
            rw [ho1]
            refine ite2 (fun e3 => iteT (bad _ (.refl _) fun z => ?_)) fun e3 => ?_
            · exact z.2.1 (of_decide_eq_true e3)
            · have m2 : x ∉ st := fun z => e3 (decide_eq_true z)
              refine ⟨_, rfl, _, rfl, x.2, rfl, w2, two_line, fun b hb => ?_⟩
              have ow6 := ow.same sm6
              have ak := at_newS ow6 hb w1 (okW_but w2)
              have sm7 := same_up (o := .tup [.str (tx x.1), .str (tx x.2.dropLast)]) hb
              obtain ⟨o, hg, ho⟩ := there_get ((hd1.same sm6).same sm7) ak hd_to
              refine ⟨_, rfl, d1, o, rfl, hg, _, rfl, ?_⟩
              rw [ho]
              refine ite2 (fun e4 => bad _ sm7 fun z => ?_) fun e4 => ?_
              · rw [decide_eq_true (show (x.1, x.2.dropLast) ∈ st from z.2.2)] at e4; cases e4
              · have m3 : parS x ∈ st := by
                  by_cases z : parS x ∈ st
                  · exact z
                  · exact absurd (by rw [decide_eq_false (show (x.1, x.2.dropLast) ∉ st from z)]; rfl) e4
                have sm8 := sm6.trans sm7
                have av8 := av6.up sm7
                generalize upd H6 b (.tup [.str (tx x.1), .str (tx x.2.dropLast)]) = H7 at sm8 av8
                have nexti : (∀ y ∈ l.take i, y < x) → Up (l.take (i + 1)) ∧ ∀ s ∈ l.take (i + 1), s ∈ mi ∧ s ∉ st ∧ parS s ∈ st := fun z => by
                  rw [take_step hx5]
                  refine ⟨List.pairwise_append.mpr ⟨up5, List.pairwise_singleton _ _, fun a ha c hc => by rw [List.mem_singleton.mp hc]; exact z a ha⟩, fun s hs => ?_⟩
                  rcases List.mem_append.mp hs with z | z
                  · exact al5 s z
                  · rw [List.mem_singleton.mp z]; exact ⟨m1, m2, m3⟩
                refine ⟨_, rfl, _, _, rfl, rfl, _, rfl, ite2 (fun e5 => ?_) fun e5 => ?_⟩
                · have e5 := of_decide_eq_true e5
                  have hi : i - 1 < l.length := by
                    have := (List.getElem?_eq_some_iff.mp hx5).1
                    omega
                  have hy : l[i - 1]? = some l[i - 1] := List.getElem?_eq_getElem hi
                  obtain ⟨vy, hvy, ay⟩ := hxs.to hy
                  refine ⟨_, rfl, _, rfl, _, _, rfl, rfl, p, xs, _, vy, rfl, rfl, .of (sm8 _ _ (Hd_some hp).2), ?_, _, rfl, S, l[i - 1], x, ay.up sm8, av8, _, rfl, ?_⟩
                  · rw [show ((i : Nat) : Int) - 1 = ((i - 1 : Nat) : Int) by omega]
                    exact atI_nat hvy
                  · refine ite2 (fun e6 => q false _ ⟨(fun z => nomatch z), fun z => ?_⟩ sm8) fun e6 => ?_
                    · have lt : l[i - 1] < x := by
                        have hxi := (List.getElem?_eq_some_iff.mp hx5)
                        have := List.pairwise_iff_getElem.mp z.2.2.1 (i - 1) i hi hxi.1 (by omega)
                        rw [hxi.2] at this
                        exact this
                      rw [decide_eq_true lt] at e6; cases e6
                    · have lt : l[i - 1] < x := by
                        by_cases z : l[i - 1] < x
                        · exact z
                        · exact absurd (by rw [decide_eq_false z]; rfl) e6
                      refine ⟨⟨_, _, _, _, rfl⟩, sm8, nexti fun y hy2 => ?_⟩
                      have et : l.take i = l.take (i - 1) ++ [l[i - 1]] := by
                        rw [← take_step hy, show i - 1 + 1 = i by omega]
                      rw [et] at hy2 up5
                      rcases List.mem_append.mp hy2 with z | z
                      · exact STO.tr ((List.pairwise_append.mp up5).2.2 y z _ (List.mem_singleton.mpr rfl)) lt
                      · rw [List.mem_singleton.mp z]; exact lt
                · have e0' : i = 0 := by
                    have : ¬ ((0 : Int) < (i : Nat)) := fun z => e5 (decide_eq_true z)
                    omega
                  subst e0'
                  exact ⟨⟨_, _, _, _, rfl⟩, sm8, nexti fun y hy2 => nomatch hy2⟩
        · obtain ⟨⟨a1, b1, c1, z1, rfl⟩, sm5, up5, al5⟩ := hP
          rw [List.take_length] at up5 al5
          exact q true H5 ⟨fun _ => ⟨e0, lk, up5, al5⟩, fun _ => rfl⟩ sm5
end
end Pw
end
section
set_option linter.all false
set_option maxRecDepth 100000
set_option maxHeartbeats 2000000
/-! Defs 7: fault_of. -/
namespace Pw
open PySem PySem.Spec PyProof.Rows L2
/-- .. with a bound on its size -/
def ThereN (H : Hp) (d : Addr) (l : List Spot) (N : Nat) : Prop := ∃ m, H d = some (.dT (sdct m fun _ => .bl true)) ∧ (∀ s, s ∈ m ↔ s ∈ l) ∧ m.length ≤ N
theorem ThereN.d {H : Hp} {d : Addr} {l : List Spot} {N : Nat} (h : ThereN H d l N) : ThereD H d l := let ⟨m, a, b, _⟩ := h; ⟨m, a, b⟩
theorem ThereN.same {H H' : Hp} {d : Addr} {l : List Spot} {N : Nat} (h : ThereN H d l N) (e : Same H H') : ThereN H' d l N := let ⟨m, a, b, c⟩ := h; ⟨m, e _ _ a, b, c⟩
theorem there_put {H : Hp} {d b : Addr} {l : List Spot} {s : Spot} {N : Nat} (h : ThereN H d l N) (hb : H b = some (.tup ((skey s).map kV))) (hl : N < sizeLine) : ∃ o, DPut H d (.ref b) (.bl true) (upd H d o) ∧ ThereN (upd H d o) d (l ++ [s]) (N + 1) := by
  obtain ⟨m, hd, mem, hN⟩ := h
  have hz : (sdct m fun _ => V.bl true).length < sizeLine := by rw [List.length_map]; omega
  have p := DPut.t (v := .bl true) hd hb hz
  by_cases e : s ∈ m
  · refine ⟨_, p, m, ?_, fun t => ?_, by omega⟩
    · have : putK (sdct m fun _ => V.bl true) (skey s) (.bl true) = sdct m fun _ => V.bl true := by
        unfold putK
        rw [valV_any, sdct_val, if_pos e, if_pos (show (some (V.bl true)).isSome = true from rfl), sdct, List.map_map]
        refine List.map_congr_left fun t _ => ?_
        show (if skey t = skey s then (skey t, V.bl true) else (skey t, V.bl true)) = _
        split <;> rfl
      rw [this]
      exact upd_same
    · rw [mem, List.mem_append, List.mem_singleton]
      exact ⟨.inl, fun z => z.elim id fun z => by rw [z]; exact (mem s).mp e⟩
  · refine ⟨_, p, m ++ [s], ?_, fun t => ?_, by rw [List.length_append]; exact Nat.add_le_add_right hN 1⟩
    · have : putK (sdct m fun _ => V.bl true) (skey s) (.bl true) = sdct (m ++ [s]) fun _ => V.bl true := by
        rw [putK_new _ (by rw [sdct_val, if_neg e]), sdct, sdct, List.map_append]; rfl
      rw [this]
      exact upd_same
    · rw [List.mem_append, List.mem_append, mem]
theorem lack_len (st wi : List Spot) : (lack st wi).length ≤ wi.length := nodup_len (lack_up st wi).nodup fun x hx => (mem_lack.mp hx).1
def GF (st mi : List Spot) (k : Nat) (ss : List (List Spot)) : Prop := ∀ i x, ss[i]? = some x → SG (st ++ (ss.take i).flatten) mi k x
theorem GF.snoc {st mi : List Spot} {k : Nat} {l : List (List Spot)} {x : List Spot} (h : GF st mi k l) (hx : SG (st ++ l.flatten) mi k x) : GF st mi k (l ++ [x]) := fun j y e => by
  rcases Nat.lt_or_ge j l.length with z | z
  · rw [List.getElem?_append_left z] at e
    rw [List.take_append_of_le_length (Nat.le_of_lt z)]
    exact h j y e
  · rw [List.getElem?_append_right z] at e
    have e0 : j - l.length = 0 := by
      have := (List.getElem?_eq_some_iff.mp e).1
      rw [List.length_singleton] at this
      omega
    rw [e0] at e
    have ej : j = l.length := by omega
    subst ej
    rw [List.take_left' rfl]
    injection e with e
    rw [← e]
    exact hx
theorem flat_snoc {α : Type} (l : List (List α)) (x : List α) : (l ++ [x]).flatten = l.flatten ++ x := by simp
def PF (st mi : List Spot) (k : Nat) (ss : List (List Spot)) : Prop := GF st mi k ss ∧ ∀ s ∈ mi, s ∈ st ++ ss.flatten
section
variable {P : Program} {w : World} {K : PySem.W.Frag} {mg : Str → Option Value} {base : Heap}
abbrev s_fault_of : Stmt := top 36
theorem sc_fault_of : FnScope ["standing", "wished", "plan", "sap", "missing", "there", "at", "season", "spot"] ["standing", "wished", "plan", "sap"] (defScope s_fault_of) := ⟨rfl, rfl, rfl, by decide +kernel, rfl, by decide +kernel, by decide +kernel⟩
def spFaultOf : Sp := fun vs H Q _ => ∃ (S : List Addr) (v1 v2 : V) (p : Addr) (st wi : List Spot) (ss : List (List Spot)) (k : Nat), vs = [v1, v2, .ref p, .int k] ∧ At (Hd S H) eSpots v1 st ∧ At (Hd S H) eSpots v2 wi ∧ PlanAt K S H p ss ∧ Own S H ∧
  st.length < 64 ∧ wi.length < 64 ∧ ss.length ≤ 1000 ∧ (∀ x ∈ ss, x.length ≤ 1000) ∧
  ∀ v H', (v = .non ∧ PF st (lack st wi) k ss ∨ (∃ n : Nat, v = .int n) ∧ ¬ PF st (lack st wi) k ss) → Same H H' → Q v H'
theorem ok_fault_of (T : Tx K mg) : FnOk P w K mg base CX0 3 (He.ga K "fault_of") T.fd_fault_of ["standing", "wished", "plan", "sap"] (spFaultOf (K := K)) := by
  refine T.F_fault_of.ok sc_fault_of (fun vs H Q E h => ?_) (fun cdv A outer s H vs Q E hr h => ?_)
  · obtain ⟨S, v1, v2, p, st, wi, ss, k, rfl, _⟩ := h; rfl
  · obtain ⟨S, v1, v2, p, st, wi, ss, k, rfl, hv1, hv2, hpl, ow, hl1, hl2, hl3, hl4, q⟩ := h
    have hu65 := hu65_of hr
    have hu := hu1_of hr
    refine ⟨_, (pss_cons (ps_set (i := 4) sc_fault_of.nd rfl (Or.inl rfl) (pe_callTy (call_dictT rfl hu65) rfl T.f_dict (by decide +kernel) (pa_cons (pe_lc (own := [("spot", 8)]) rfl sc_fault_of.nd (k_piL K rfl (pe_call (ok_lacking_of T) (hr.mono (by decide)) rfl T.g_lacking_of T.F_lacking_of.kp (b_lacking_of T) .nil pass0 (pa_cons (pv 0) (pa_cons (pv 1) pa_nil)))) (blkOk_by (own := [("spot", 8)]) (N := ["standing", "wished", "plan", "sap", "missing", "there", "at", "season", "spot"]) (sc := (defScope s_fault_of)) (by decide +kernel)) (fun _ _ _ _ _ => (pg_name (i := 8) sc_fault_of.nd rfl (Or.inl rfl))) (fun _ _ _ _ _ => pts_nil) (fun _ _ _ _ _ => (pe_tup (pa_cons (pv 8) (pa_cons pe_bl pa_nil))))) pa_nil)))
      (pss_cons (ps_set (i := 5) sc_fault_of.nd rfl (Or.inr rfl) (pe_callTy (call_dictT rfl hu65) rfl T.f_dict (by decide +kernel) (pa_cons (pe_lc (own := [("spot", 8)]) rfl sc_fault_of.nd (k_piL K rfl (pv 0)) (blkOk_by (own := [("spot", 8)]) (N := ["standing", "wished", "plan", "sap", "missing", "there", "at", "season", "spot"]) (sc := (defScope s_fault_of)) (by decide +kernel)) (fun _ _ _ _ _ => (pg_name (i := 8) sc_fault_of.nd rfl (Or.inl rfl))) (fun _ _ _ _ _ => pts_nil) (fun _ _ _ _ _ => (pe_tup (pa_cons (pv 8) (pa_cons pe_bl pa_nil))))) pa_nil)))
      (pss_cons (ps_for PassesOwn.leaving rfl (pi_enum (by rfl) T.f_enumerate (pa_cons (pe_meth0 (pv 2) T.c_Plan T.m_Plan_seasons (ok_Plan_seasons T) (hr.mono (by decide)) (b_Plan_seasons T) .nil pass0) pa_nil)) (k_pgT K rfl (n := 2) rfl (pgs_cons (pg_name (i := 6) sc_fault_of.nd rfl (Or.inl rfl)) (pgs_cons (pg_name (i := 7) sc_fault_of.nd rfl (Or.inl rfl)) pgs_nil)))
      (pss_cons (ps_if (pt_not (pt_val (pe_call (ok_season_good T) (hr.mono (by decide)) rfl T.g_season_good T.F_season_good.kp (b_season_good T) .nil pass0 (pa_cons (pv 7) (pa_cons (pv 5) (pa_cons (pv 4) (pa_cons (pv 3) pa_nil))))))) (pss_one (ps_ret (pv 6))) pss_nil)
      (pss_one (ps_for PassesOwn.leaving rfl (k_piL K rfl (pv 7)) (pg_name (i := 8) sc_fault_of.nd rfl (Or.inl rfl))
      (pss_one (ps_dput hu (pv 5) (pv 8) pe_bl rfl))))))
      (pss_cons (ps_if (pt_val (pe_lock (pe_callB (k_all K rfl rfl) rfl T.f_all (by decide +kernel) (pa_cons (pe_lc (own := [("spot", 8)]) rfl sc_fault_of.nd (pi_keys (pv 4)) (blkOk_by (own := [("spot", 8)]) (N := ["standing", "wished", "plan", "sap", "missing", "there", "at", "season", "spot"]) (sc := (defScope s_fault_of)) (by decide +kernel)) (fun _ _ _ _ _ => (pg_name (i := 8) sc_fault_of.nd rfl (Or.inl rfl))) (fun _ _ _ _ _ => pts_nil) (fun _ _ _ _ _ => (pe_cmp (pc_din hu (pv 8) (pv 5)) rfl))) pa_nil)))) (pss_one (ps_ret pe_non)) pss_nil)
      (pss_one (ps_ret (pe_callB (call_lenOwn T.m_Plan_len (ok_Plan_len T) (hr.mono (by decide)) (b_Plan_len T) pass0) rfl T.f_len PySem.boot_len (pa_cons (pv 2) pa_nil)))))))), ?_⟩
    refine ⟨_, rfl, _, rfl, S, v1, v2, st, wi, rfl, hv1, hv2, ow, hl1, hl2, fun u H1 sm1 au => ?_⟩
    have hL := Nat.le_trans (lack_len st wi) (Nat.le_of_lt hl2)
    generalize hmi : lack st wi = mi at au q hL
    obtain ⟨p1, xs1, rfl, hp1, hxs1⟩ := id au.list
    have ow1 := ow.same sm1
    refine ⟨p1, rfl, ⟨_, .of (Hd_some hp1).2⟩, fun D hD => ?_⟩
    refine lc_at (A := eSpot) (B := ePair eSpot eBool) (S := S) (fun _ => true) (fun s => (s, true)) ow1 hD hp1 hxs1 (by rw [sizeLine_eq]; omega) (fun x hx1 v H1 sm wD av NF NT k1 k2 => ?_) (fun H2 sm2 a => ?_)
    · exact ⟨rfl, _, rfl, two_line, fun b hb => k2 rfl _ _ (same_up hb) (at_newP wD hb av .of_bool)⟩
    rw [ftrue] at a
    refine ⟨S, _, mi, rfl, a, fun d2 m2 hd2 nd2 mem2 ml2 => ?_⟩
    have sm3 : Same H (upd H2 d2 (.dT (sdct m2 fun _ => .bl true))) := (sm1.trans sm2).trans (same_up hd2)
    have f2 : H d2 = none := by
      cases z : H d2 with
      | none => rfl
      | some o => rw [sm2 _ _ (sm1 _ _ z)] at hd2; cases hd2
    have g2 : upd H2 d2 (.dT (sdct m2 fun _ => .bl true)) d2 = some (.dT (sdct m2 fun _ => .bl true)) := upd_same
    generalize upd H2 d2 (.dT (sdct m2 fun _ => .bl true)) = H3 at sm3 g2
    obtain ⟨p3, xs3, e3, hp3, hxs3⟩ := id (hv1.up sm3).list
    have ow3 := ow.same sm3
    refine ⟨_, rfl, p3, e3, ⟨_, .of (Hd_some hp3).2⟩, fun D hD => ?_⟩
    refine lc_at (A := eSpot) (B := ePair eSpot eBool) (S := S) (fun _ => true) (fun s => (s, true)) ow3 hD hp3 hxs3 (by rw [sizeLine_eq]; omega) (fun x hx1 v H1 sm wD av NF NT k1 k2 => ?_) (fun H4 sm4 a => ?_)
    · exact ⟨rfl, _, rfl, two_line, fun b hb => k2 rfl _ _ (same_up hb) (at_newP wD hb av .of_bool)⟩
    rw [ftrue] at a
    refine ⟨S, _, st, rfl, a, fun d1 m1 hd1 nd1 mem1 ml1 => ?_⟩
    have sm5 : Same H3 (upd H4 d1 (.dT (sdct m1 fun _ => .bl true))) := sm4.trans (same_up hd1)
    have f1 : H3 d1 = none := by
      cases z : H3 d1 with
      | none => rfl
      | some o => rw [sm4 _ _ z] at hd1; cases hd1
    have t1 : ThereN (upd H4 d1 (.dT (sdct m1 fun _ => .bl true))) d1 st 64 := ⟨m1, upd_same, mem1, by omega⟩
    have ow5 : Own (d1 :: S) (upd H4 d1 (.dT (sdct m1 fun _ => .bl true))) := own_in (ow3.same sm4) hd1
    have nd : d2 ≠ d1 := fun z => by rw [← z, g2] at f1; cases f1
    have fz5 : Same H (upd H4 d1 (.dT (sdct m1 fun _ => .bl true))) := sm3.trans sm5
    have hpl5 : PlanAt K (d1 :: S) (upd H4 d1 (.dT (sdct m1 fun _ => .bl true))) p ss := by
      have h := (hpl.same sm3).same sm4
      obtain ⟨n, dx, u, e1, e2⟩ := h
      refine ⟨fun z => ?_, dx, u, same_up hd1 _ _ e1, e2.into (same_up hd1) hd1⟩
      rcases List.mem_cons.mp z with z | z
      · rw [z, hd1] at e1; cases e1
      · exact n z
    generalize upd H4 d1 (.dT (sdct m1 fun _ => .bl true)) = H5 at sm5 t1 ow5 fz5 hpl5
    have g5 := sm5 _ _ g2
    obtain ⟨npl, dx, uu, epl, aplan⟩ := id hpl5
    refine ⟨_, rfl, p, dx, _, rfl, epl, rfl, d1 :: S, p, ss, rfl, hpl5, ow5, hl3, fun u H6 sm6 au6 => ?_⟩
    have sm06 : Same H H6 := fz5.trans sm6
    have f10 : H d1 = none := by
      cases z : H d1 with
      | none => rfl
      | some o => rw [sm3 _ _ z] at f1; cases f1
    have up1 : ∀ (H' : Hp) o, Same H H' → Same H (upd H' d1 o) := fun H' o sm b y e => by
      by_cases z : b = d1
      · rw [z, f10] at e; cases e
      · rw [upd_ne z]; exact sm _ _ e
    obtain ⟨p6, xs6, rfl, hp6, hxs6⟩ := id au6.list
    refine ⟨p6, xs6, rfl, .of (Hd_some hp6).2, ?_⟩
    refine forE (A := eSpots) (S := d1 :: S) (l := ss) hp6 hxs6 (fun i σ H' => (∃ a b c, σ = [some v1, some v2, some (.ref p), some (.int k), some (.ref d2), some (.ref d1), a, b, c]) ∧ Fz (d1 :: S) H6 H' ∧ Own (d1 :: S) H' ∧ ThereN H' d1 (st ++ (ss.take i).flatten) (64 + 1000 * i) ∧ GF st mi k (ss.take i) ∧ Same H H' ∧ H' d2 = some (.dT (sdct m2 fun _ => .bl true)))
      ⟨⟨_, _, _, rfl⟩, .refl, ow5.same sm6, by simpa using t1.same sm6, (fun j x e => by simp at e), sm06, sm6 _ _ g5⟩ (fun i σ H h => h.2.1) (fun i x v3 σ H7 TT hx7 hP av hT => ?_) (fun σ H7 hP => ?_)
    · obtain ⟨⟨a1, b1, c1, rfl⟩, fz7, ow7, t7, gf7, sm7, d7⟩ := hP
      have smT : Same H7 (upd H7 TT (.tup [.int (i : Nat), v3])) := same_up hT
      have av8 := av.up smT
      have tt8 : SqT K (upd H7 TT (.tup [.int (i : Nat), v3])) TT [.int (i : Nat), v3] := .of upd_same
      have t8 := t7.same smT
      have ow8 := ow7.same smT
      have fz8 := fz7.trans (.of smT)
      have sm8 := sm7.trans smT
      have d8 := smT _ _ d7
      generalize upd H7 TT (.tup [.int (i : Nat), v3]) = H8 at smT av8 tt8 t8 ow8 fz8 sm8 d8
      have hmem := List.mem_of_getElem? hx7
      have hi := (List.getElem?_eq_some_iff.mp hx7).1
      refine ⟨TT, _, rfl, tt8, rfl, _, _, rfl, _, _, rfl, rfl, ?_⟩
      refine ⟨_, rfl, _, rfl, _, rfl, _, rfl, d1 :: S, v3, d1, d2, _, mi, x, k, rfl, av8, ow8, hl4 x hmem, t8.d, ⟨m2, d8, mem2⟩, fun b H9 hb sm9 => ⟨b, rfl, ?_⟩⟩
      refine ite2 (fun eb => ?_) fun eb => ?_
      · refine ⟨_, rfl, q _ _ (.inr ⟨⟨i, rfl⟩, fun z => ?_⟩) (sm8.trans sm9)⟩
        have := hb.mpr (z.1 i x hx7)
        rw [this] at eb; cases eb
      · have hb1 : b = true := by cases b with
          | true => rfl
          | false => exact absurd rfl eb
        have sg := hb.mp hb1
        obtain ⟨p9, xs9, rfl, hp9, hxs9⟩ := id (av8.up sm9).list
        refine ⟨_, rfl, p9, rfl, ⟨_, .of (Hd_some hp9).2⟩, ?_⟩
        have t9 := t8.same sm9
        have ow9 := ow8.same sm9
        have fz9 := fz8.trans (.of sm9)
        have s9 := sm8.trans sm9
        have d9 := sm9 _ _ d8
        have hxl := hl4 x hmem
        refine forL (A := eSpot) (S := d1 :: S) (l := x) hp9 hxs9 (fun j σ H' => (∃ c, σ = [some v1, some v2, some (.ref p), some (.int k), some (.ref d2), some (.ref d1), some (.int i), some (.ref p9), c]) ∧ Fz (d1 :: S) H9 H' ∧ Own (d1 :: S) H' ∧ ThereN H' d1 (st ++ (ss.take i).flatten ++ x.take j) (64 + 1000 * i + j) ∧ Same H H' ∧ H' d2 = some (.dT (sdct m2 fun _ => .bl true)))
          ⟨⟨_, rfl⟩, .refl, ow9, by simpa using t9, s9, d9⟩ (fun j σ H h => h.2.1) (fun j y v4 σ HA hxA hP av => ?_) (fun σ HA hP => ?_)
        · obtain ⟨⟨c2, rfl⟩, fzA, owA, tA, smA, dA⟩ := hP
          obtain ⟨t, rfl, ht, w1, w2⟩ := av.spot
          have hj := (List.getElem?_eq_some_iff.mp hxA).1
          obtain ⟨o, hput, tB⟩ := there_put tA (hd_to _ _ ht) (by rw [sizeLine_eq]; omega)
          refine ⟨_, rfl, _, rfl, d1, _, rfl, hput, ⟨_, rfl⟩, fzA.trans (fz_upd List.mem_cons_self), owA.kp .upd, ?_, up1 _ _ smA, by rw [upd_ne nd]; exact dA⟩
          rw [List.append_assoc, ← take_step hxA] at tB
          exact tB
        · obtain ⟨⟨c2, rfl⟩, fzA, owA, tA, smA, dA⟩ := hP
          rw [List.take_length] at tA
          refine ⟨⟨_, _, _, rfl⟩, fz9.trans fzA, owA, ?_, by rw [take_step hx7]; exact gf7.snoc sg, smA, dA⟩
          obtain ⟨m, h1, h2, h3⟩ := tA
          refine ⟨m, h1, fun s => ?_, by omega⟩
          rw [h2, take_step hx7, flat_snoc, List.append_assoc]
    · obtain ⟨⟨a1, b1, c1, rfl⟩, fz7, ow7, t7, gf7, sm7, d7⟩ := hP
      rw [List.take_length] at t7 gf7
      refine ⟨d2, _, d7, trivial, fun od => ?_⟩
      have hL7 : ∀ b o, b ≠ d2 → H7 b = some o → upd H7 d2 (.frz od (.dT (sdct m2 fun _ => .bl true))) b = some o := fun b o n e => by rw [upd_ne n]; exact e
      have tL : ThereN (upd H7 d2 (.frz od (.dT (sdct m2 fun _ => .bl true)))) d1 (st ++ ss.flatten) (64 + 1000 * ss.length) := by
        obtain ⟨m, h1, h2, h3⟩ := t7
        exact ⟨m, hL7 _ _ (fun z => nd z.symm) h1, h2, h3⟩
      have gL : upd H7 d2 (.frz od (.dT (sdct m2 fun _ => .bl true))) d2 = some (.frz od (.dT (sdct m2 fun _ => .bl true))) := upd_same
      have smL : ∀ H', Same (upd H7 d2 (.frz od (.dT (sdct m2 fun _ => .bl true)))) H' → ∀ o, Same H (upd H' d2 o) := fun H' sm o b y e => by
        by_cases z : b = d2
        · rw [z, f2] at e; cases e
        · rw [upd_ne z]; exact sm _ _ (hL7 _ _ z (sm7 _ _ e))
      generalize upd H7 d2 (.frz od (.dT (sdct m2 fun _ => .bl true))) = HL at tL gL smL
      refine ⟨_, rfl, d2, od, rfl, .inr ⟨_, gL, fun D hD => ?_⟩⟩
      refine lc_val (n := m2.length) (fun i => (m2.take i).map fun s => V.bl (decide (s ∈ st ++ ss.flatten))) rfl (fun i hi => by rw [List.length_map, List.length_take]; exact Nat.min_le_left _ _) (by rw [sizeLine_eq]; omega) hD (fun i H8 sm => ⟨fun hi => ⟨sm _ _ gL, by rw [List.length_map]; exact hi⟩, fun hi => ⟨sm _ _ gL, by rw [List.length_map]; omega⟩⟩) (fun i x H8 H9 hi sm hy => ?_) (fun H8 sm hD8 => ?_)
      · obtain ⟨rfl, ky, vy, qy, e1, rfl, e2⟩ := hy
        rw [List.getElem?_map] at e1
        obtain ⟨s, hs, e1⟩ := Option.map_eq_some_iff.mp e1
        injection e1 with e1 e3
        subst e1
        have ea : ((m2.take (i + 1)).map fun s => V.bl (decide (s ∈ st ++ ss.flatten))) = ((m2.take i).map fun s => V.bl (decide (s ∈ st ++ ss.flatten))) ++ [V.bl (decide (s ∈ st ++ ss.flatten))] := by
          rw [take_step hs, List.map_append]; rfl
        obtain ⟨m, h1, h2, h3⟩ := tL.same sm
        refine ⟨.refl _, fun NF NT k1 k2 => ⟨rfl, _, rfl, _, rfl, d1, _, rfl, .t h1 e2, ?_⟩⟩
        rw [sdct_val]
        refine k2 _ ?_ _ (.refl _)
        show ((m2.take (i + 1)).map fun s => V.bl (decide (s ∈ st ++ ss.flatten))) = _
        rw [ea]
        congr 3
        by_cases z : s ∈ m
        · rw [if_pos z, decide_eq_true ((h2 s).mp z)]; rfl
        · rw [if_neg z, decide_eq_false fun y => z ((h2 s).mpr y)]; rfl
      · rw [List.take_length] at hD8
        refine ⟨D, m2.map fun s => decide (s ∈ st ++ ss.flatten), rfl, .of (by rw [hD8, List.map_map]; rfl), sm _ _ gL, _, rfl, ?_⟩
        have smF := smL H8 sm (.dT (sdct m2 fun _ => .bl true))
        refine ite2 (fun e => ?_) fun e => ?_
        · refine q _ _ (.inl ⟨rfl, gf7, fun s hs => ?_⟩) smF
          rw [List.all_map, List.all_eq_true] at e
          exact of_decide_eq_true (e s ((mem2 s).mpr hs))
        · have hplF := hpl.same smF
          obtain ⟨nF, dxF, uF, eF, aF⟩ := id hplF
          refine ⟨_, rfl, p, dxF, _, rfl, eF, S, p, ss, rfl, hplF, ss.length, rfl, by rw [sizeLine_eq]; omega, q _ _ (.inr ⟨⟨_, rfl⟩, fun z => e ?_⟩) smF⟩
          rw [List.all_map, List.all_eq_true]
          exact fun s hs => decide_eq_true (z.2 s ((mem2 s).mp hs))
end
end Pw
end
section
set_option linter.all false
set_option maxRecDepth 100000
set_option maxHeartbeats 2000000
/-! Defs 8: Choices, made. -/
namespace Pw
open PySem PySem.Spec PyProof.Rows L2
theorem upd_no {H : Hp} {a b : Addr} {o : HO} (e : upd H a o b = none) : H b = none := by
  by_cases z : b = a
  · rw [z, upd_same] at e; cases e
  · rwa [upd_ne z] at e
def idxS (s : Spot) (l : List Spot) : Nat := @List.idxOf Spot instBEqOfDecidableEq s l
theorem len_lt {l : List (Str × V)} (n : Nat) (h : l.length = n) (hn : n < 1000) : l.length < 1000 := by rw [h]; exact hn
def belV (mi : List Spot) : List V := mi.map fun s => if parS s ∈ mi then V.int (idxS (parS s) mi : Nat) else V.non
structure ChAt (K : Fg) (S : List Addr) (H : Hp) (c : Addr) (mi : List Spot) (k : Nat) (kn : Addr) : Prop where
  nc : c ∉ S
  ex : ∃ dx vm pb, H c = some (.ins (He.ga K "Choices") dx [("missing", vm), ("most", .int k), ("below", .ref pb), ("known", .ref kn)]) ∧ pb ∉ S ∧ At (Hd S H) eSpots vm mi ∧ H pb = some (.lst (belV mi))
theorem ChAt.fz {K : Fg} {S : List Addr} {H H' : Hp} {c : Addr} {mi : List Spot} {k : Nat} {kn : Addr} (h : ChAt K S H c mi k kn) (e : Fz S H H') : ChAt K S H' c mi k kn := by
  obtain ⟨n, dx, vm, pb, h1, h2, h3, h4⟩ := h
  exact ⟨n, dx, vm, pb, e _ _ n h1, h2, h3.same e.hd, e _ _ h2 h4⟩
section
variable {P : Program} {w : World} {K : PySem.W.Frag} {mg : Str → Option Value} {base : Heap}
abbrev s_Choices_place_of : Stmt := inClass (top 39) 1
theorem sc_Choices_place_of : FnScope ["self", "spot"] ["self", "spot"] (defScope s_Choices_place_of) := ⟨rfl, rfl, rfl, by decide +kernel, rfl, by decide +kernel, by decide +kernel⟩
def spPlaceOf : Sp := fun vs H Q _ => ∃ (S : List Addr) (c dx : Addr) (fs : List (Str × V)) (v vm : V) (mi : List Spot) (s : Spot), vs = [.ref c, v] ∧ H c = some (.ins (He.ga K "Choices") dx fs) ∧ fs.lookup ("missing" : Str) = some vm ∧ At (Hd S H) eSpots vm mi ∧ At (Hd S H) eSpot v s ∧
  Q (if s ∈ mi then V.int (idxS s mi : Nat) else V.non) H
theorem ok_Choices_place_of (T : Tx K mg) : FnOk P w K mg base CX0 1 (He.ma K (He.ga K "Choices") "place_of") T.fd_Choices_place_of ["self", "spot"] (spPlaceOf (K := K)) := by
  refine T.F_Choices_place_of.ok sc_Choices_place_of (fun vs H Q E h => ?_) (fun cdv A outer s H vs Q E hr h => ?_)
  · obtain ⟨S, c, dx, fs, v, vm, mi, s, rfl, _⟩ := h; rfl
  · obtain ⟨S, c, dx, fs, v, vm, mi, s, rfl, hc, hm, av, as, q⟩ := h
    have hu65 := hu65_of hr
    have hu := hu1_of hr
    refine ⟨_, (pss_cons (ps_if (pt_cmpR (k_notIn K rfl hu65) (pv 1) (k_fld K rfl (pv 0) rfl) (by rfl)) (pss_one (ps_ret pe_non)) pss_nil)
      (pss_one (ps_ret (pe_bm PySem.F.plainAttrs_list PySem.F.slot_list_index PySem.F.type_list_index (k_index K rfl hu65) (k_fld K rfl (pv 0) rfl) (pa_cons (pv 1) pa_nil))))), ?_⟩
    refine ⟨_, rfl, _, rfl, c, _, dx, fs, vm, rfl, hc, T.c_Choices, T.n_Choices_missing, hm, notin_at as av hd_to ⟨_, rfl, ite2 (fun e => ?_) fun e => ?_⟩⟩
    · have n : s ∉ mi := by simpa using e
      rw [if_neg n] at q
      exact q
    · have n : s ∈ mi := by simpa using e
      rw [if_pos n] at q
      obtain ⟨pm, xs, rfl, hpm, hxs⟩ := id av.list
      exact ⟨_, rfl, c, _, dx, fs, _, rfl, hc, T.c_Choices, T.n_Choices_missing, hm, .inl ⟨rfl, xs, .of (Hd_some hpm).2⟩, _, rfl, index_at (Q := fun v H' => Q v H') as av hd_to n q⟩
abbrev s_Choices_init : Stmt := inClass (top 39) 0
theorem sc_Choices_init : FnScope ["self", "missing", "sap", "tree", "word"] ["self", "missing", "sap"] (defScope s_Choices_init) := ⟨rfl, rfl, rfl, by decide +kernel, rfl, by decide +kernel, by decide +kernel⟩
def spChoicesInit : Sp := fun vs H Q _ => ∃ (S : List Addr) (x dx : Addr) (v : V) (mi : List Spot) (k : Nat), vs = [.ref x, v, .int k] ∧ H x = some (.ins (He.ga K "Choices") dx []) ∧ x ∈ S ∧ Own S H ∧ At (Hd S H) eSpots v mi ∧ mi.length ≤ 64 ∧
  ∀ H' pb kn, (∀ b o, b ≠ x → H b = some o → H' b = some o) → H' x = some (.ins (He.ga K "Choices") dx [("missing", v), ("most", .int k), ("below", .ref pb), ("known", .ref kn)]) → H' pb = some (.lst (belV mi)) → H pb = none → H kn = none → pb ≠ kn → H' kn = some (KnO P w kn []) → (kn == sysModules) = false → Q .non H'
theorem ok_Choices_init (T : Tx K mg) : FnOk P w K mg base CX0 2 (He.ma K (He.ga K "Choices") "__init__") T.fd_Choices_init ["self", "missing", "sap"] (spChoicesInit (P := P) (w := w) (K := K)) := by
  refine T.F_Choices_init.ok sc_Choices_init (fun vs H Q E h => ?_) (fun cdv A outer s H vs Q E hr h => ?_)
  · obtain ⟨S, x, dx, v, mi, k, rfl, _⟩ := h; rfl
  · obtain ⟨S, x, dx, v, mi, k, rfl, hx, hxS, ow, hv, hl, q⟩ := h
    have hu65 := hu65_of hr
    have hu := hu1_of hr
    refine ⟨_, (pss_cons (ps_fld (pv 0) (pv 1) rfl)
      (pss_cons (ps_fld (pv 0) (pv 2) rfl)
      (pss_cons (ps_fld (pv 0) (pe_lc (own := [("tree", 3), ("word", 4)]) rfl sc_Choices_init.nd (k_piL K rfl (pv 1)) (blkOk_by (own := [("tree", 3), ("word", 4)]) (N := ["self", "missing", "sap", "tree", "word"]) (sc := (defScope s_Choices_init)) (by decide +kernel)) (fun _ _ _ _ _ => (k_pgT K rfl (n := 2) rfl (pgs_cons (pg_name (i := 3) sc_Choices_init.nd rfl (Or.inl rfl)) (pgs_cons (pg_name (i := 4) sc_Choices_init.nd rfl (Or.inl rfl)) pgs_nil)))) (fun _ _ _ _ _ => pts_nil) (fun _ _ _ _ _ => (pe_meth (pv 0) T.c_Choices T.m_Choices_place_of (ok_Choices_place_of T) (hr.mono (by decide)) (b_Choices_place_of T) .nil pass0 (pa_cons (pe_tup (pa_cons (pv 3) (pa_cons (pe_call (ok_beneath T) (hr.mono (by decide)) rfl T.g_beneath T.F_beneath.kp (b_beneath T) .nil pass0 (pa_cons (pv 4) pa_nil)) pa_nil))) pa_nil)))) rfl)
      (pss_one (ps_fld (pv 0) pe_newKn rfl))))), ?_⟩
    have far : ∀ {H' : Hp} {o}, Fz S H (upd H' x o) ↔ Fz S H H' := fun {H' o} => ⟨fun h b y n e => by have := h b y n e; rwa [upd_ne (fun z => n (by rw [z]; exact hxS))] at this, fun h b y n e => by rw [upd_ne (fun z => n (by rw [z]; exact hxS))]; exact h b y n e⟩
    refine ⟨_, rfl, _, rfl, x, _, dx, _, rfl, hx, T.c_Choices, T.n_Choices_missing, len_lt 0 rfl (by decide), ?_⟩
    refine ⟨_, rfl, _, rfl, x, _, dx, _, rfl, upd_same, T.c_Choices, T.n_Choices_most, len_lt 1 rfl (by decide), ?_⟩
    have fz2 : ∀ o1 o2, Fz S H (upd (upd H x o1) x o2) := fun o1 o2 => (fz_upd hxS).trans (fz_upd hxS)
    have ow2 : ∀ o1 o2, Own S (upd (upd H x o1) x o2) := fun o1 o2 => (ow.kp .upd).kp .upd
    have u2 : upd (upd H x (.ins (He.ga K "Choices") dx (putF "missing" v []))) x (.ins (He.ga K "Choices") dx (putF "most" (.int k) (putF "missing" v []))) = upd H x (.ins (He.ga K "Choices") dx [("missing", v), ("most", .int k)]) := by
      rw [upd_upd]; rfl
    rw [u2]
    have g2 : upd H x (.ins (He.ga K "Choices") dx [("missing", v), ("most", .int k)]) x = some (.ins (He.ga K "Choices") dx [("missing", v), ("most", .int k)]) := upd_same
    have fz2 : Fz S H (upd H x (.ins (He.ga K "Choices") dx [("missing", v), ("most", .int k)])) := fz_upd hxS
    have ow2 : Own S (upd H x (.ins (He.ga K "Choices") dx [("missing", v), ("most", .int k)])) := ow.kp .upd
    have hn2 : ∀ b, upd H x (.ins (He.ga K "Choices") dx [("missing", v), ("most", .int k)]) b = none → H b = none := fun b e => upd_no e
    have keep2 : ∀ b o, b ≠ x → H b = some o → upd H x (.ins (He.ga K "Choices") dx [("missing", v), ("most", .int k)]) b = some o := fun b o n e => by rw [upd_ne n]; exact e
    generalize upd H x (.ins (He.ga K "Choices") dx [("missing", v), ("most", .int k)]) = H2 at g2 fz2 ow2 hn2 keep2
    have hv2 : At (Hd S H2) eSpots v mi := hv.same fz2.hd
    obtain ⟨p, xs, rfl, hp, hxs⟩ := id hv2.list
    refine ⟨_, rfl, p, rfl, ⟨_, .of (Hd_some hp).2⟩, fun D hD => ?_⟩
    refine lc_atV (A := eSpot) (S := S) (fun _ => true) (fun s => if parS s ∈ mi then V.int (idxS (parS s) mi : Nat) else V.non) hD hp hxs (by rw [sizeLine_eq]; omega) (fun y hy v3 H3 sm3 av NF NT k1 k2 => ?_) (fun H3 sm3 hl3 => ?_)
    · obtain ⟨t, rfl, ht, w1, w2⟩ := av.spot
      refine ⟨t, _, rfl, .of (hd_to _ _ ht), rfl, _, _, rfl, _, _, rfl, rfl, rfl, ?_⟩
      refine ⟨_, rfl, x, dx, _, rfl, sm3 _ _ g2, rfl, _, rfl, _, rfl, y.2, rfl, w2, two_line, fun b hb => ?_⟩
      have sm4 := same_up (o := .tup [.str (tx y.1), .str (tx y.2.dropLast)]) hb
      refine ⟨S, x, dx, _, _, _, mi, parS y, rfl, sm4 _ _ (sm3 _ _ g2), rfl, (hv2.up sm3).up sm4, at_newS (ow2.same sm3) hb w1 (okW_but w2), ?_⟩
      exact k2 rfl _ sm4
    · rw [ftrue] at hl3
      have dx3 : D ≠ x := fun z => by rw [z, g2] at hD; cases hD
      have g3 := sm3 _ _ g2
      refine ⟨_, rfl, x, _, dx, _, rfl, g3, T.c_Choices, T.n_Choices_below, len_lt 2 rfl (by decide), ?_⟩
      refine fun kn hkn hns => ?_
      have knx : kn ≠ x := fun z => by rw [z, upd_same] at hkn; cases hkn
      have hk3 := upd_no hkn
      have nkD : D ≠ kn := fun z => by rw [z, hk3] at hl3; cases hl3
      refine ⟨_, rfl, x, _, dx, _, rfl, by rw [upd_ne (fun z => knx z.symm)]; exact upd_same, T.c_Choices, T.n_Choices_known, len_lt 3 rfl (by decide), ?_⟩
      refine q _ D kn (fun b o n e => ?_) upd_same ?_ (hn2 _ hD) (hn2 _ ?_) nkD ?_ hns
      · have e3 := sm3 _ _ (keep2 b o n e)
        rw [upd_ne n, upd_ne (fun z => by rw [z, hk3] at e3; cases e3), upd_ne n]
        exact e3
      · rw [upd_ne dx3, upd_ne nkD, upd_ne dx3]
        exact hl3
      · cases z : H2 kn with
        | none => rfl
        | some o => rw [sm3 _ _ z] at hk3; cases hk3
      · rw [upd_ne knx]
        exact upd_same
/-- Choices(v, k) -/
theorem mk_choices {S : List Addr} {H : Hp} {v : V} {mi : List Spot} {k : Nat} {Q : Addr → Hp → Prop} {E : XK} (ow : Own S H) (hv : At (Hd S H) eSpots v mi) (hl : mi.length ≤ 64)
    (q : ∀ c kn H', Same H H' → H kn = none → H c = none → ChAt K (kn :: S) H' c mi k kn → Own (kn :: S) H' → (∀ f L N, Kn P w H' kn f L N) → Q c H') :
    ∀ x dx, H x = none → H dx = none → dx ≠ x → spChoicesInit (P := P) (w := w) (K := K) (.ref x :: [v, .int k]) (upd (upd H dx (.own x)) x (.ins (He.ga K "Choices") dx [])) (fun v H2 => v = .non ∧ Q x H2) E := fun x dx hx hdx ne => by
  have s1 : Same H (upd H dx (.own x)) := same_up hdx
  have hx1 : upd H dx (.own x) x = none := by rw [upd_ne (fun z => ne z.symm)]; exact hx
  have s2 : Same (upd H dx (.own x)) (upd (upd H dx (.own x)) x (.ins (He.ga K "Choices") dx [])) := same_up hx1
  have sm := s1.trans s2
  have ow2 : Own (x :: S) (upd (upd H dx (.own x)) x (.ins (He.ga K "Choices") dx [])) := own_in (ow.same s1) hx1
  have hv2 : At (Hd (x :: S) (upd (upd H dx (.own x)) x (.ins (He.ga K "Choices") dx []))) eSpots v mi := (hv.up s1).into s2 hx1
  have hn2 : ∀ b, upd (upd H dx (.own x)) x (.ins (He.ga K "Choices") dx []) b = none → H b = none := fun b e => upd_no (upd_no e)
  have gx : upd (upd H dx (.own x)) x (.ins (He.ga K "Choices") dx []) x = some (.ins (He.ga K "Choices") dx []) := upd_same
  refine ⟨x :: S, x, dx, v, mi, k, rfl, gx, List.mem_cons_self, ow2, hv2, hl, ?_⟩
  generalize upd (upd H dx (.own x)) x (.ins (He.ga K "Choices") dx []) = H2 at sm ow2 hn2 gx
  refine fun H' pb kn keep gx' gpb npb nkn ne2 gkn nsys => ⟨rfl, ?_⟩
  have pbx : pb ≠ x := fun z => by rw [z, gx] at npb; cases npb
  have knx : kn ≠ x := fun z => by rw [z, gx] at nkn; cases nkn
  have smF : Same H H' := fun b o e => keep b o (fun z => by rw [z, hx] at e; cases e) (sm _ _ e)
  have nS : ∀ b, H b = none → b ∉ S := fun b e z => ow b z e
  refine q x kn H' smF (hn2 _ nkn) hx ⟨fun z => (List.mem_cons.mp z).elim (fun z => knx z.symm) (nS _ hx), dx, v, pb, gx', fun z => (List.mem_cons.mp z).elim ne2 (nS _ (hn2 _ npb)), ?_, gpb⟩ ?_ fun f L N => ⟨⟨[], gkn, fun y hy => nomatch hy⟩, nsys⟩
  · have e1 : Same (Hd S H) (Hd (kn :: S) H') := fun b o e => by
      obtain ⟨n1, e2⟩ := Hd_some e
      have nb : b ≠ kn := fun z => by rw [z, hn2 _ nkn] at e2; cases e2
      rw [Hd_at (fun z => (List.mem_cons.mp z).elim nb n1)]
      exact smF _ _ e2
    exact hv.same e1
  · intro b hb z
    rcases List.mem_cons.mp hb with y | y
    · rw [y, gkn] at z; cases z
    · cases e : H b with
      | none => exact ow b y e
      | some o => rw [smF _ _ e] at z; cases z
end
end Pw
end
section
set_option linter.all false
set_option maxRecDepth 100000
set_option maxHeartbeats 2000000
/-! Defs 9: ready, lots, behind, ways (exceptions may be handled). -/
namespace Pw
open PySem PySem.Spec PyProof.Rows L2 L2H
theorem hu65_ofH {k : Nat} {A : Around} (r : RoomH k A) : A.units + 65 < cLine := by have := r.un; omega
theorem hu1_ofH {k : Nat} {A : Around} (r : RoomH k A) : A.units + 1 < cLine := by have := r.un; omega
theorem pass0W {X : Cx} {E : LSt → XK} : ∀ σ, PassesAt CX0 X σ (E σ) := fun _ _ _ _ _ _ _ h => h.elim
section
variable {K : Fg} {S : List Addr}
/-- for i, v in enumerate(list of values) -/
theorem forEV {a : Addr} {xs : List V} {g : TG} {tb : TS} {D : Ends} {σ : L2.St} {H0 : Hp} (Pv : Nat → L2.St → Hp → Prop) (h0 : Pv 0 σ H0) (hs : ∀ i σ H, Pv i σ H → H a = some (.lst xs))
    (turn : ∀ i v σ H T, xs[i]? = some v → Pv i σ H → H T = none → g (.ref T) σ (upd H T (.tup [.int (i : Nat), v])) fun σ2 H2 => tb { D with nx := Pv (i + 1), ct := Pv (i + 1), bk := D.nx } σ2 H2) (done : ∀ σ H, Pv xs.length σ H → D.nx σ H) :
    ∃ W : Nat → Nat → L2.St → Hp → Prop, (∃ m, W 0 m σ H0) ∧ ∀ i m σ H, W i m σ H →
      ((Ite K a).stop i H ∧ D.nx σ H) ∨ ((Ite K a).go i H ∧ ∃ N : L2.St → Hp → Prop, (∀ σ' H', N σ' H' → ∃ m', m' < m ∧ W (i + 1) m' σ' H') ∧ ∀ x H', (Ite K a).yld i H x H' → g x σ H' fun σ2 H2 => tb { D with nx := N, ct := N, bk := D.nx } σ2 H2) := by
  refine for_it (walk_enum (K := K) (a := a) (xs := xs)) Pv h0 (fun i σ H _ p => .of (hs i σ H p)) (fun i x σ H H' hi p y => ?_) (fun σ H p => done σ H p)
  obtain ⟨T, y1, y2, rfl, hT, rfl, e1, e2⟩ := y
  injection e1 with e1
  subst e1
  exact turn i y2 σ H T e2 p hT
end
theorem get_bl {l : List Bool} {i : Nat} (h : i < l.length) : (l.map V.bl)[i]? = some (.bl (l.getD i false)) := by
  rw [List.getElem?_map, List.getD_eq_getElem?_getD, List.getElem?_eq_getElem h]; rfl
/-- the lacking, their number beneath, the grown, by number -/
def fS (mi : List Spot) (i : Nat) : Spot := mi.getD i ([], [])
def bS (mi : List Spot) (i : Nat) : Option Nat := match mi[i]? with | some s => if parS s ∈ mi then some (idxS (parS s) mi) else none | none => none
def dS (l : List Bool) (i : Nat) : Bool := l.getD i false
def rdy (mi : List Spot) (l : List Bool) : List Nat := readyI mi.length (bS mi) (dS l)
def rdyP (mi : List Spot) (l : List Bool) (i : Nat) : Bool := !dS l i && (match bS mi i with | none => true | some j => dS l j)
theorem rdy_eq (mi : List Spot) (l : List Bool) : rdy mi l = pick mi.length (rdyP mi l) := rfl
theorem rdyP_at {mi : List Spot} {l : List Bool} {i : Nat} {s : Spot} (h : mi[i]? = some s) : rdyP mi l i = (!dS l i && if parS s ∈ mi then dS l (idxS (parS s) mi) else true) := by
  unfold rdyP bS
  rw [h]
  by_cases z : parS s ∈ mi
  · simp only [if_pos z]
  · simp only [if_neg z]
theorem idx_lt {α : Type} [DecidableEq α] {s : α} {l : List α} (h : s ∈ l) : l.idxOf s < l.length := List.idxOf_lt_length_of_mem h
theorem idx_get {α : Type} [DecidableEq α] {s : α} {l : List α} (h : s ∈ l) : l[l.idxOf s]? = some s := by rw [List.getElem?_eq_getElem (idx_lt h), List.getElem_idxOf]
theorem idxS_lt {s : Spot} {l : List Spot} (h : s ∈ l) : idxS s l < l.length := idx_lt h
theorem idxS_get {s : Spot} {l : List Spot} (h : s ∈ l) : l[idxS s l]? = some s := idx_get h
theorem subs_len {α : Type} (k : Nat) (l : List α) : (subs k l).length ≤ 2 ^ l.length := by
  refine rev_ind (P := fun l => (subs k l).length ≤ 2 ^ l.length) (show 1 ≤ 1 from Nat.le_refl _) (fun l x ih => ?_) l
  rw [subs_more, List.length_append, List.length_map, List.length_append, List.length_singleton, Nat.pow_succ]
  have := List.length_filter_le (fun m : List α => decide (m.length < k)) (subs k l)
  omega
theorem subs_small {α : Type} (k : Nat) {l : List α} (h : l.length ≤ 10) : (subs k l).length ≤ 1024 := Nat.le_trans (subs_len k l) (Nat.pow_le_pow_right (n := 2) (by decide) h)
theorem rdy_len (mi : List Spot) (l : List Bool) : (rdy mi l).length ≤ mi.length := by
  rw [rdy_eq]
  exact Nat.le_trans (List.length_filter_le _ _) (by rw [List.length_range]; exact Nat.le_refl _)
section
variable {P : Program} {w : World} {K : PySem.W.Frag} {mg : Str → Option Value} {base : Heap}
abbrev s_Choices_ready : Stmt := inClass (top 39) 2
theorem sc_Choices_ready : FnScope ["self", "done", "found", "at", "low"] ["self", "done"] (defScope s_Choices_ready) := ⟨rfl, rfl, rfl, by decide +kernel, rfl, by decide +kernel, by decide +kernel⟩
def spReady : Sp := fun vs H Q _ => ∃ (S : List Addr) (c d : Addr) (mi : List Spot) (k : Nat) (kn : Addr) (l : List Bool), vs = [.ref c, .ref d] ∧ ChAt K S H c mi k kn ∧ Own S H ∧ SqT K H d (l.map .bl) ∧ l.length = mi.length ∧ mi.length ≤ 10 ∧
  ∀ u H', Same H H' → At (Hd S H') (eList eNat) u (rdy mi l) → Q u H'
theorem ok_Choices_ready (T : Tx K mg) : FnW P w K mg base CX0 1 (He.ma K (He.ga K "Choices") "ready") T.fd_Choices_ready ["self", "done"] (spReady (K := K)) := by
  refine FunD.okW T.F_Choices_ready sc_Choices_ready (fun vs H Q E h => ?_) (fun cdv A outer s H vs Q E hr hw h => ?_)
  · obtain ⟨S, c, d, mi, k, kn, l, rfl, _⟩ := h; rfl
  · obtain ⟨S, c, d, mi, k, kn, l, rfl, hc, ow, hd, hl, hn, q⟩ := h
    have hu65 := hu65_ofH hr
    have hu := hu1_ofH hr
    refine ⟨_, (pss_cons (ps_set (i := 2) sc_Choices_ready.nd rfl (Or.inl rfl) (pe_lst pa_nil))
      (pss_cons (ps_forW PassesOwn.leaving hw (piW_enum (by rfl) T.f_enumerate (pa_cons (k_fld K rfl (pv 0) rfl) pa_nil)) (k_wgT K rfl (n := 2) hw (pgs_cons (pg_name (i := 3) sc_Choices_ready.nd rfl (Or.inl rfl)) (pgs_cons (pg_name (i := 4) sc_Choices_ready.nd rfl (Or.inl rfl)) pgs_nil)))
      (pss_one (ps_if (PW.pt (pw_and (pt_not (pt_val (pe_ix (k_ixT K rfl) (pv 1) (pv 3) (fun _ _ => rfl)))) (pw_and1 (PW.pt (pw_or (pt_cmpR op_isN (pv 4) pe_non (nomark _)) (pw_or1 (pt_val (pe_ix (k_ixT K rfl) (pv 1) (pv 4) (fun _ _ => rfl))))))))) (pss_one (ps_expr (pe_bm PySem.F.plainAttrs_list PySem.F.slot_list_append PySem.F.type_list_append mt_append (pv 2) (pa_cons (pv 3) pa_nil)))) pss_nil)))
      (pss_one (ps_ret (pv 2))))), ?_⟩
    obtain ⟨hcS, dx, vm, pb, hcc, hpb, avm, hpl⟩ := id hc
    refine ⟨Nat.zero_le _, fun f hf => ?_⟩
    have fn := ow.new hf
    have sm0 : Same H (upd H f (.lst [])) := same_up hf
    have ow1 : Own (f :: S) (upd H f (.lst [])) := own_in ow hf
    have gf : upd H f (.lst []) f = some (.lst []) := upd_same
    have fpb : pb ≠ f := fun z => by rw [z, hf] at hpl; cases hpl
    generalize upd H f (.lst []) = H1 at sm0 ow1 gf
    generalize hp : rdyP mi l = p
    refine ⟨_, rfl, c, _, dx, _, _, rfl, sm0 _ _ hcc, T.c_Choices, T.n_Choices_below, rfl, pb, _, rfl, .of (sm0 _ _ hpl), ?_⟩
    refine forEV (fun i σ H' => (∃ a b, σ = [some (.ref c), some (.ref d), some (.ref f), a, b]) ∧ Fz [f] H1 H' ∧ Own (f :: S) H' ∧ H' f = some (.lst ((pick i p).map fun a => V.int (a : Nat))) ∧ Same H H') ⟨⟨_, _, rfl⟩, .refl, ow1, gf, sm0⟩ (fun i σ H' h => h.2.2.2.2 _ _ hpl) (fun i v σ H5 TT hv hP hT => ?_) (fun σ H5 hP => ?_)
    · obtain ⟨⟨a1, b1, rfl⟩, fz, owf, hf5, sm5⟩ := hP
      have smT := same_up (o := .tup [.int (i : Nat), v]) hT
      have sm6 := sm5.trans smT
      have tt6 : SqT K (upd H5 TT (.tup [.int (i : Nat), v])) TT [.int (i : Nat), v] := .of upd_same
      have hf6 := smT _ _ hf5
      have ow6 := owf.same smT
      have fz6 := fz.trans (.of smT)
      generalize upd H5 TT (.tup [.int (i : Nat), v]) = H6 at smT sm6 tt6 hf6 ow6 fz6
      unfold belV at hv
      rw [List.getElem?_map] at hv
      obtain ⟨s, hs, rfl⟩ := Option.map_eq_some_iff.mp hv
      have hi : i < l.length := by rw [hl]; exact (List.getElem?_eq_some_iff.mp hs).1
      have dt : SqT K H6 d (l.map .bl) := sqt_same sm6 hd
      have yes : p i = true → pick (i + 1) p = pick i p ++ [i] := fun e => by
        unfold pick
        rw [List.range_succ, List.filter_append, List.filter_cons_of_pos e]; rfl
      have no : p i = false → pick (i + 1) p = pick i p := fun e => by
        unfold pick
        rw [List.range_succ, List.filter_append, List.filter_cons_of_neg (by rw [e]; decide)]; simp
      have lp : (pick i p).length ≤ 10 := Nat.le_trans (List.length_filter_le _ _) (by rw [List.length_range]; omega)
      refine ⟨TT, _, rfl, tt6, rfl, _, _, rfl, _, _, rfl, rfl, ?_⟩
      refine ⟨_, rfl, _, rfl, d, _, i, _, rfl, rfl, dt, atI_nat (get_bl hi), _, rfl, ?_⟩
      have pe := rdyP_at (l := l) hs
      rw [hp] at pe
      have skip : p i = false → (∃ a b, [some (V.ref c), some (.ref d), some (.ref f), some (.int (i : Nat)), some (if parS s ∈ mi then V.int (idxS (parS s) mi : Nat) else V.non)] = [some (V.ref c), some (.ref d), some (.ref f), a, b]) ∧ Fz [f] H1 H6 ∧ Own (f :: S) H6 ∧ H6 f = some (.lst ((pick (i + 1) p).map fun a => V.int (a : Nat))) ∧ Same H H6 := fun e =>
        ⟨⟨_, _, rfl⟩, fz6, ow6, by rw [no e]; exact hf6, sm6⟩
      have put : p i = true → (∃ a b, [some (V.ref c), some (.ref d), some (.ref f), some (.int (i : Nat)), some (if parS s ∈ mi then V.int (idxS (parS s) mi : Nat) else V.non)] = [some (V.ref c), some (.ref d), some (.ref f), a, b]) ∧ Fz [f] H1 (upd H6 f (.lst (((pick i p).map fun a => V.int (a : Nat)) ++ [.int (i : Nat)]))) ∧ Own (f :: S) (upd H6 f (.lst (((pick i p).map fun a => V.int (a : Nat)) ++ [.int (i : Nat)]))) ∧ (upd H6 f (.lst (((pick i p).map fun a => V.int (a : Nat)) ++ [.int (i : Nat)]))) f = some (.lst ((pick (i + 1) p).map fun a => V.int (a : Nat))) ∧ Same H (upd H6 f (.lst (((pick i p).map fun a => V.int (a : Nat)) ++ [.int (i : Nat)]))) := fun e =>
        ⟨⟨_, _, rfl⟩, fz6.trans (fz_upd (List.mem_singleton.mpr rfl)), ow6.kp .upd, by rw [yes e, List.map_append]; exact upd_same, fun b y e => by
          rw [upd_ne (fun z => by rw [z, hf] at e; cases e)]
          exact sm6 _ _ e⟩
      have hz : ((pick i p).map fun a => V.int (a : Nat)).length < sizeLine := by rw [List.length_map, sizeLine_eq]; omega
      refine ite2 (fun e1 => ?_) fun e1 => ?_
      · have d0 : dS l i = false := by
          show l.getD i false = false
          simpa using e1
        rw [d0, Bool.not_false, Bool.true_and] at pe
        by_cases z : parS s ∈ mi
        · rw [if_pos z] at pe put skip ⊢
          refine ⟨_, rfl, rfl, _, rfl, iteF ?_⟩
          refine ⟨_, rfl, _, rfl, d, _, _, _, rfl, rfl, dt, atI_nat (get_bl (by rw [hl]; exact idxS_lt z)), _, rfl, ite2 (fun e2 => ?_) fun e2 => ?_⟩
          · exact ⟨_, rfl, .inl ⟨rfl, _, .of hf6⟩, _, rfl, f, _, _, rfl, rfl, hf6, hz, put (pe.trans e2)⟩
          · exact skip (pe.trans (Bool.eq_false_iff.mpr e2))
        · rw [if_neg z] at pe put skip ⊢
          refine ⟨_, rfl, rfl, _, rfl, iteT (iteT ?_)⟩
          exact ⟨_, rfl, .inl ⟨rfl, _, .of hf6⟩, _, rfl, f, _, _, rfl, rfl, hf6, hz, put pe⟩
      · have d1 : dS l i = true := by
          show l.getD i false = true
          simpa using e1
        rw [d1, Bool.not_true, Bool.false_and] at pe
        exact iteF (skip pe)
    · obtain ⟨⟨a1, b1, rfl⟩, fz, owf, hf5, sm5⟩ := hP
      rw [show (belV mi).length = mi.length from List.length_map _, ← hp, ← rdy_eq] at hf5
      refine ⟨_, rfl, q _ H5 sm5 (.of_list (by rw [Hd_at fn]; exact hf5) (ats_nats _))⟩
abbrev s_Choices_lots : Stmt := inClass (top 39) 3
theorem sc_Choices_lots : FnScope ["self", "done", "found", "at", "lot"] ["self", "done"] (defScope s_Choices_lots) := ⟨rfl, rfl, rfl, by decide +kernel, rfl, by decide +kernel, by decide +kernel⟩
def spLots : Sp := fun vs H Q _ => ∃ (S : List Addr) (c d : Addr) (mi : List Spot) (k : Nat) (kn : Addr) (l : List Bool), vs = [.ref c, .ref d] ∧ ChAt K S H c mi k kn ∧ Own S H ∧ SqT K H d (l.map .bl) ∧ l.length = mi.length ∧ mi.length ≤ 10 ∧
  ∀ u H', Same H H' → At (Hd S H') (eList (eList eNat)) u (lots k (rdy mi l)) → Q u H'
theorem ok_Choices_lots (T : Tx K mg) : FnW P w K mg base CX0 2 (He.ma K (He.ga K "Choices") "lots") T.fd_Choices_lots ["self", "done"] (spLots (K := K)) := by
  refine FunD.okW T.F_Choices_lots sc_Choices_lots (fun vs H Q E h => ?_) (fun cdv A outer s H vs Q E hr hw h => ?_)
  · obtain ⟨S, c, d, mi, k, kn, l, rfl, _⟩ := h; rfl
  · obtain ⟨S, c, d, mi, k, kn, l, rfl, hc, ow, hd, hl, hn, q⟩ := h
    have hu65 := hu65_ofH hr
    have hu := hu1_ofH hr
    refine ⟨_, (pss_cons (ps_set (i := 2) sc_Choices_lots.nd rfl (Or.inl rfl) (pe_lst (pa_cons (pe_lst pa_nil) pa_nil)))
      (pss_cons (ps_forW PassesOwn.leaving hw (k_wiL K rfl (pe_methW (E := fun _ => E0) (pv 0) T.c_Choices T.m_Choices_ready ((ok_Choices_ready T)) (hr.mono (by omega)) hw (b_Choices_ready T) pass0W (pa_cons (pv 1) pa_nil))) (pg_name (i := 3) sc_Choices_lots.nd rfl (Or.inr rfl))
      (pss_one (ps_set (i := 2) sc_Choices_lots.nd rfl (Or.inl rfl) (pe_op op_cat (pv 2) (lcW (own := [("lot", 4)]) hw sc_Choices_lots.nd (k_wiL K rfl (pv 2)) (blkOk_by (own := [("lot", 4)]) (N := ["self", "done", "found", "at", "lot"]) (sc := (defScope s_Choices_lots)) (by decide +kernel)) (fun _ _ _ _ _ hw => (pg_name (i := 4) sc_Choices_lots.nd rfl (Or.inl rfl))) (fun _ _ _ _ _ hw => (pts_one (pt_cmpR op_lt (pe_callB (k_len K rfl) rfl T.f_len PySem.boot_len (pa_cons (pv 4) pa_nil)) (k_fld K rfl (pv 0) rfl) (nomark _)))) (fun _ _ _ _ _ hw => (pe_op op_cat (pv 4) (pe_lst (pa_cons (pv 3) pa_nil)))))))))
      (pss_one (ps_ret (pe_callB (cr_sortA (sb_list (A := eNat)) (hu := hu65)) rfl T.f_sorted (by decide +kernel) (pa_cons (pe_slice (k_slL K rfl) (pv 2) (po_some pe_int) po_none) pa_nil)))))), ?_⟩
    obtain ⟨hcS, dx, vm, pb, hcc, hpb, avm, hpl⟩ := id hc
    refine ⟨Nat.zero_le _, fun f0 hf0 => ⟨by show 1 ≤ sizeLine; rw [sizeLine_eq]; decide, fun f1 hf1 => ?_⟩⟩
    have s0 := same_up (o := .lst []) hf0
    have a0 : At (Hd S (upd H f0 (.lst []))) (eList eNat) (.ref f0) [] := at_new ow hf0 .nil
    have a1 := at_new (ow.same s0) hf1 (Ats.one a0)
    have sm1 := s0.trans (same_up (o := .lst [.ref f0]) hf1)
    generalize upd (upd H f0 (.lst [])) f1 (.lst [.ref f0]) = H1 at a1 sm1
    refine ⟨_, rfl, c, dx, _, rfl, sm1 _ _ hcc, rfl, _, rfl, S, c, d, mi, k, kn, l, rfl, hc.fz (.of sm1), ow.same sm1, sqt_same sm1 hd, hl, hn, fun u H2 sm2 au => ?_⟩
    obtain ⟨p, xs, rfl, hp, hxs⟩ := id au.list
    have hR := Nat.le_trans (rdy_len mi l) hn
    generalize rdy mi l = R at au hxs q hR
    refine ⟨p, rfl, ⟨_, .of (Hd_some hp).2⟩, ?_⟩
    refine forL (A := eNat) (S := S) (l := R) hp hxs (fun i σ H' => (∃ v a b, σ = [some (.ref c), some (.ref d), some v, a, b] ∧ At (Hd S H') (eList (eList eNat)) v (subs k (R.take i))) ∧ Same H2 H') ⟨⟨_, _, _, rfl, a1.up sm2⟩, .refl _⟩ (fun i σ H h => .of h.2) (fun i x v3 σ H5 hx5 hP av => ?_) (fun σ H5 hP => ?_)
    · obtain ⟨⟨v, a2, b2, rfl, afo⟩, sm3⟩ := hP
      obtain rfl := av.nat
      have ow5 := ((ow.same sm1).same sm2).same sm3
      have c5 := (sm1.trans sm2).trans sm3 _ _ hcc
      obtain ⟨pf, xf, rfl, hpf, hxf⟩ := id afo.list
      have hz := subs_small k (l := R.take i) (by rw [List.length_take]; omega)
      refine ⟨_, rfl, _, rfl, pf, rfl, ⟨_, .of (Hd_some hpf).2⟩, fun D hD => ?_⟩
      refine lc_at (A := eList eNat) (B := eList eNat) (S := S) (fun m => decide (m.length < k)) (fun m => m ++ [x]) ow5 hD hpf hxf (by rw [sizeLine_eq]; omega) (fun m hm v H6 sm6 wD am NF NT k1 k2 => ?_) (fun H6 sm6 a6 => ?_)
      · obtain ⟨pm, xm, rfl, hpm, hxm⟩ := id am.list
        refine ⟨rfl, _, rfl, pm, xm, rfl, .inl (.of (Hd_some hpm).2), _, rfl, c, _, dx, _, _, rfl, sm6 _ _ c5, T.c_Choices, T.n_Choices_most, rfl, _, _, rfl, rfl, _, rfl, ?_⟩
        have ml : m.length ≤ 10 := by
          have := ((mem_subs k _ m).mp hm).1.length_le
          rw [List.length_take] at this
          omega
        rw [hxm.len]
        refine ite2 (fun e => ?_) fun e => ?_
        · have e1 : decide (m.length < k) = true := by
            have := of_decide_eq_true e
            exact decide_eq_true (by omega)
          refine ⟨_, rfl, _, rfl, by show 1 ≤ sizeLine; rw [sizeLine_eq]; decide, fun pn hpn => ?_⟩
          have sn := same_up (o := .lst [.int (x : Nat)]) hpn
          refine ⟨pm, pn, xm, _, rfl, rfl, sn _ _ (Hd_some hpm).2, upd_same, by rw [hxm.len, sizeLine_eq]; show m.length + 1 ≤ _; omega, fun pq hpq => ?_⟩
          exact k2 e1 _ _ (sn.trans (same_up hpq)) (at_new (wD.same sn) hpq ((hxm.up sn).app (Ats.one .of_nat)))
        · have e1 : decide (m.length < k) = false := by
            have : ¬ (((m.length : Nat) : Int) < (k : Nat)) := fun z => e (decide_eq_true z)
            exact decide_eq_false (by omega)
          exact k1 e1 _ (.refl _)
      · obtain ⟨pD, xD, eD, hpD, hxD⟩ := id a6.list
        injection eD with eD
        subst eD
        have hz2 : xD.length ≤ 1024 := by
          rw [hxD.len, List.length_map]
          exact Nat.le_trans (List.length_filter_le _ _) hz
        refine ⟨pf, D, xf, xD, rfl, rfl, sm6 _ _ (Hd_some hpf).2, (Hd_some hpD).2, by rw [hxf.len, sizeLine_eq]; omega, fun pq hpq => ?_⟩
        refine ⟨⟨_, _, _, rfl, ?_⟩, (sm3.trans sm6).trans (same_up hpq)⟩
        rw [take_step hx5, subs_more]
        exact at_new (ow5.same sm6) hpq ((hxf.up sm6).app hxD)
    · obtain ⟨⟨v, a2, b2, rfl, afo⟩, sm3⟩ := hP
      rw [List.take_length] at afo
      obtain ⟨pf, xf, rfl, hpf, hxf⟩ := id afo.list
      have ow5 := ((ow.same sm1).same sm2).same sm3
      refine ⟨_, rfl, 1, rfl, pf, xf, rfl, .of (Hd_some hpf).2, fun pq hpq => ?_⟩
      have sq := same_up (o := .lst (cutV xf (some 1) none)) hpq
      have ad := at_new ow5 hpq (hxf.drop 1)
      rw [show (some (1 : Int)) = some ((1 : Nat) : Int) from rfl, cutv_lo] at sq ⊢
      refine ⟨S, _, _, rfl, ad, ow5.same sq, fun pz xs hpz az => ?_⟩
      refine q _ _ ((((sm1.trans sm2).trans sm3).trans sq).trans (same_up hpz)) ?_
      rw [show (subs k R).drop 1 = (subs k R).tail from List.drop_one] at az
      exact az
end
end Pw
end
section
set_option linter.all false
set_option maxRecDepth 100000
set_option maxHeartbeats 2000000
/-! Defs 10: behind, ways. -/
namespace Pw
open PySem PySem.Spec PyProof.Rows L2 L2H
def plusL (l : List Bool) (lot : List Nat) : List Bool := (List.range l.length).map fun i => l.getD i false || decide (i ∈ lot)
theorem plusL_len (l : List Bool) (lot : List Nat) : (plusL l lot).length = l.length := by
  unfold plusL
  rw [List.length_map, List.length_range]
section
variable {P : Program} {w : World} {K : PySem.W.Frag} {mg : Str → Option Value} {base : Heap}
abbrev s_Choices_behind : Stmt := inClass (top 39) 4
theorem sc_Choices_behind : FnScope ["self", "done", "lot", "at"] ["self", "done", "lot"] (defScope s_Choices_behind) := ⟨rfl, rfl, rfl, by decide +kernel, rfl, by decide +kernel, by decide +kernel⟩
def spBehind : Sp := fun vs H Q _ => ∃ (S : List Addr) (c d : Addr) (v : V) (l : List Bool) (lot : List Nat), vs = [.ref c, .ref d, v] ∧ Own S H ∧ SqT K H d (l.map .bl) ∧ l.length ≤ 10 ∧ At (Hd S H) (eList eNat) v lot ∧
  ∀ u H', Same H H' → H' u = some (.tup ((plusL l lot).map .bl)) → Q (.ref u) H'
theorem ok_Choices_behind (T : Tx K mg) : FnW P w K mg base CX0 1 (He.ma K (He.ga K "Choices") "behind") T.fd_Choices_behind ["self", "done", "lot"] (spBehind (K := K)) := by
  refine FunD.okW T.F_Choices_behind sc_Choices_behind (fun vs H Q E h => ?_) (fun cdv A outer s H vs Q E hr hw h => ?_)
  · obtain ⟨S, c, d, v, l, lot, rfl, _⟩ := h; rfl
  · obtain ⟨S, c, d, v, l, lot, rfl, ow, hd, hl, hv, q⟩ := h
    have hu65 := hu65_ofH hr
    have hu := hu1_ofH hr
    refine ⟨_, (pss_one (ps_ret (pe_callTy (k_tupOf K rfl) rfl T.f_tuple (by decide +kernel) (pa_cons (lcW (own := [("at", 3)]) hw sc_Choices_behind.nd (piW_range1 (by rfl) T.f_range (pa_cons (pe_callB (k_len K rfl) rfl T.f_len PySem.boot_len (pa_cons (pv 1) pa_nil)) pa_nil)) (blkOk_by (own := [("at", 3)]) (N := ["self", "done", "lot", "at"]) (sc := (defScope s_Choices_behind)) (by decide +kernel)) (fun _ _ _ _ _ hw => (pg_name (i := 3) sc_Choices_behind.nd rfl (Or.inl rfl))) (fun _ _ _ _ _ hw => pts_nil) (fun _ _ _ _ _ hw => (pe_or (pe_ix (k_ixT K rfl) (pv 1) (pv 3) (fun _ _ => rfl)) (pe_one (pe_cmpR (k_in K rfl hu65) (pv 3) (pv 2) (by rfl)))))) pa_nil)))), ?_⟩
    refine ⟨_, rfl, d, _, rfl, .inr hd, (l.length : Int), by rw [List.length_map], by omega, by omega, fun D hD => ?_⟩
    refine lc_rngV (fun _ => true) (fun i => V.bl (l.getD i false || decide (i ∈ lot))) hD (by rw [sizeLine_eq]; omega) (fun i hi H1 sm NF NT k1 k2 => ?_) (fun H1 sm hl1 => ?_)
    · have hi2 : i < l.length := by omega
      rw [show (0 : Int) + ((i : Nat) : Int) = ((i : Nat) : Int) by omega]
      refine ⟨rfl, _, rfl, _, rfl, d, _, i, _, rfl, rfl, sqt_same sm hd, atI_nat (get_bl hi2), _, rfl, ?_⟩
      have kk := k2 rfl H1 (.refl _)
      refine ite2 (fun e => ?_) fun e => ?_
      · rw [e, Bool.true_or] at kk
        exact kk
      · rw [Bool.eq_false_iff.mpr e, Bool.false_or] at kk
        exact ⟨_, rfl, _, rfl, in_at (A := eNat) (Q := fun y H4 => NT H4 y) .of_nat (hv.up sm) hd_to kk⟩
    · rw [show (l.length : Int).toNat = l.length from rfl, ftrue] at hl1
      refine ⟨D, _, rfl, .inl ⟨.of hl1, fun p hp => q p _ (sm.trans (same_up hp)) ?_⟩⟩
      rw [upd_same]
      unfold plusL
      rw [List.map_map]
      rfl
end
end Pw
end
section
set_option linter.all false
set_option maxRecDepth 100000
set_option maxHeartbeats 2000000
/-! Numbers 1: ways by lists of bools. -/
namespace Pw
abbrev NumS (st mi : List Spot) : Prop := Num parS st mi.length (fS mi) (bS mi)
def wy (st mi : List Spot) (k m : Nat) (l : List Bool) : Nat := ways parS k st mi.length (fS mi) m (dS l)
theorem pick_congr {n : Nat} {p q : Nat → Bool} (h : ∀ i, i < n → p i = q i) : pick n p = pick n q := List.filter_congr fun i hi => h i (List.mem_range.mp hi)
section
variable {α : Type} [LT α] [STO α] [DecidableEq α] [DecidableLT α] {par : α → α} {k : Nat} {st : List α} {n : Nat} {f : Nat → α}
theorem plansI_congr {D D' : Nat → Bool} (h : ∀ i, i < n → D i = D' i) (m : Nat) : plansI par k st n f m D = plansI par k st n f m D' := by
  unfold plansI leftI doneI
  have h2 : pick n (fun i => !D i) = pick n (fun i => !D' i) := pick_congr fun i hi => by rw [h i hi]
  rw [pick_congr h, h2]
theorem ways_congr {D D' : Nat → Bool} (h : ∀ i, i < n → D i = D' i) (m : Nat) : ways par k st n f m D = ways par k st n f m D' := by
  unfold ways
  rw [plansI_congr h]
end
theorem dS_plus {l : List Bool} {lot : List Nat} {i : Nat} (h : i < l.length) : dS (plusL l lot) i = plus (dS l) lot i := by
  unfold dS plusL plus
  rw [List.getD_eq_getElem?_getD, List.getElem?_map, List.getElem?_range h]
  rfl
theorem list_dS (l : List Bool) : l = (List.range l.length).map (dS l) := by
  refine List.ext_getElem? fun i => ?_
  rw [List.getElem?_map]
  rcases Nat.lt_or_ge i l.length with z | z
  · rw [List.getElem?_range z, List.getElem?_eq_getElem z]
    unfold dS
    rw [Option.map_some, List.getD_eq_getElem?_getD, List.getElem?_eq_getElem z]; rfl
  · rw [List.getElem?_eq_none_iff.mpr z, List.getElem?_eq_none_iff.mpr (by rw [List.length_range]; exact z)]; rfl
theorem left_len (mi : List Spot) (l : List Bool) (h : l.length = mi.length) : (leftI mi.length (fS mi) (dS l)).length = (l.filter fun b => !b).length := by
  unfold leftI pick
  rw [List.length_map]
  conv => rhs; rw [list_dS l, List.filter_map, List.length_map, h]
  rfl
theorem left_nil {mi : List Spot} {l : List Bool} (h : l.length = mi.length) : leftI mi.length (fS mi) (dS l) = [] ↔ l.all id = true := by
  rw [← List.length_eq_zero_iff, left_len mi l h, List.length_eq_zero_iff, List.filter_eq_nil_iff, List.all_eq_true]
  exact ⟨fun z x hx => by have := z x hx; simpa using this, fun z x hx => by have : x = true := z x hx; rw [this]; decide⟩
theorem wy_done {st mi : List Spot} {k m : Nat} {l : List Bool} (h : l.length = mi.length) (e : l.all id = true) : wy st mi k m l = if m = 0 then 1 else 0 := ways_nil k m ((left_nil h).mpr e)
theorem wy_many {st mi : List Spot} {k m : Nat} {l : List Bool} (N : NumS st mi) (h : l.length = mi.length) (e : m * k < (l.filter fun b => !b).length) : wy st mi k m l = 0 := N.ways_many k m (by rw [left_len mi l h]; exact e)
theorem wy_succ {st mi : List Spot} {k m : Nat} {l : List Bool} (N : NumS st mi) (h : l.length = mi.length) (e : ¬ l.all id = true) : wy st mi k (m + 1) l = ((lots k (rdy mi l)).map fun lot => wy st mi k m (plusL l lot)).sum := by
  unfold wy
  rw [N.ways_succ k m fun z => e ((left_nil h).mp z)]
  congr 1
  exact List.map_congr_left fun lot _ => ways_congr (fun i hi => (dS_plus (by omega)).symm) m
end Pw
end
section
set_option linter.all false
set_option maxRecDepth 100000
set_option maxHeartbeats 2000000
/-! Defs 11: ways. -/
namespace Pw
open PySem PySem.Spec PyProof.Rows L2 L2H
theorem KeyAt.same {H H' : Hp} {d : Addr} {m : MK} (h : KeyAt H d m) (e : Same H H') : KeyAt H' d m := let ⟨c, a, b⟩ := h; ⟨c, e _ _ a, e _ _ b⟩
theorem Kn.same {P : Program} {w : World} {H H' : Hp} {a : Addr} {f : MK → Int} {L N : Nat} (h : Kn P w H a f L N) (e : Same H H') : Kn P w H' a f L N := by
  obtain ⟨⟨xs, h1, h2⟩, h3⟩ := h
  exact ⟨⟨xs, e _ _ h1, fun x hx => let ⟨k, t, a, b, c⟩ := h2 x hx; ⟨k, t, a, b.same e, c⟩⟩, h3⟩
theorem KeyAt.lst {H : Hp} {d D : Addr} {m : MK} {xs : List V} {o : HO} (h : KeyAt H d m) (e : H D = some (.lst xs)) : KeyAt (upd H D o) d m := by
  obtain ⟨c, a, b⟩ := h
  refine ⟨c, ?_, ?_⟩
  · rw [upd_ne (fun z => by rw [z, e] at a; cases a)]; exact a
  · rw [upd_ne (fun z => by rw [z, e] at b; cases b)]; exact b
theorem Kn.lst {P : Program} {w : World} {H : Hp} {a D : Addr} {f : MK → Int} {L N : Nat} {xs : List V} {o : HO} (h : Kn P w H a f L N) (e : H D = some (.lst xs)) : Kn P w (upd H D o) a f L N := by
  obtain ⟨⟨ys, h1, h2⟩, h3⟩ := h
  refine ⟨⟨ys, ?_, fun x hx => let ⟨k, t, a, b, c⟩ := h2 x hx; ⟨k, t, a, b.lst e, c⟩⟩, h3⟩
  rw [upd_ne (fun z => by rw [z, e] at h1; cases h1)]
  exact h1
theorem k_known (P : Program) (w : World) {X : Cx} {W : LSt → Hp → Prop} {o i : Expr} {to ti : TE} {pos : Pos} (e1 : X.prog = P) (e2 : X.w = w) (hc : WarmC X) (hu : X.A.units + 65 < cLine) (tk : TakesF X W) (ho : PE X o to) (hi : PE X i ti) (hs : NoSl i) : PE X (.Subscript o i pos) (tKnown to ti P w W) := by
  subst e1
  subst e2
  exact pe_known hc hu tk ho hi hs
theorem roomS {k : Nat} {X : Cx} (a : Addr) (pn : List (Addr × Obj)) (h : RoomH k X.A) : RoomH k (X.suite a pn).A := ⟨h.dp, h.un⟩
theorem sum_cast (l : List Nat) : ((l.map fun n => ((n : Nat) : Int)).sum) = ((l.sum : Nat) : Int) := by
  induction l with
  | nil => rfl
  | cons a l ih => rw [List.map_cons, List.sum_cons, List.sum_cons, ih]; omega
theorem hd_own {S : List Addr} {H0 H : Hp} {D kn : Addr} (hk : kn ∈ S) (hD : H0 D = none) (f : Fz [D, kn] H0 H) : Same (Hd S H0) (Hd (D :: S) H) := fun b o e => by
  obtain ⟨n, e2⟩ := Hd_some e
  have nD : b ≠ D := fun z => by rw [z, hD] at e2; cases e2
  rw [Hd_at (fun z => (List.mem_cons.mp z).elim nD n)]
  exact f _ _ (fun z => (List.mem_cons.mp z).elim nD fun z => n (by rw [List.mem_singleton.mp z]; exact hk)) e2
theorem ChAt.own {K : Fg} {S : List Addr} {H0 H : Hp} {c D : Addr} {mi : List Spot} {k : Nat} {kn : Addr} (h : ChAt K S H0 c mi k kn) (hk : kn ∈ S) (hD : H0 D = none) (f : Fz [D, kn] H0 H) : ChAt K (D :: S) H c mi k kn := by
  obtain ⟨n, dx, vm, pb, h1, h2, h3, h4⟩ := h
  have nD : ∀ b o, H0 b = some o → b ≠ D := fun b o e z => by rw [z, hD] at e; cases e
  have go : ∀ b o, b ∉ S → H0 b = some o → b ∉ [D, kn] := fun b o nb e z => (List.mem_cons.mp z).elim (nD _ _ e) fun z => nb (by rw [List.mem_singleton.mp z]; exact hk)
  exact ⟨fun z => (List.mem_cons.mp z).elim (nD _ _ h1) n, dx, vm, pb, f _ _ (go _ _ n h1) h1, fun z => (List.mem_cons.mp z).elim (nD _ _ h4) h2, h3.same (hd_own hk hD f), f _ _ (go _ _ h2 h4) h4⟩
section
variable {P : Program} {w : World} {K : PySem.W.Frag} {mg : Str → Option Value} {base : Heap}
/-- the memo's law -/
def fW (st mi : List Spot) (k : Nat) : MK → Int := fun x => ((wy st mi k x.2 x.1 : Nat) : Int)
abbrev s_Choices_ways : Stmt := inClass (top 39) 5
theorem sc_Choices_ways : FnScope ["self", "done", "seasons", "many", "one", "lot"] ["self", "done", "seasons"] (defScope s_Choices_ways) := ⟨rfl, rfl, rfl, by decide +kernel, rfl, by decide +kernel, by decide +kernel⟩
def spWays (B : Nat) : Sp := fun vs H Q _ => ∃ (S : List Addr) (c d : Addr) (st mi : List Spot) (k : Nat) (kn : Addr) (l : List Bool) (m N : Nat), vs = [.ref c, .ref d, .int m] ∧ m < B ∧ ChAt K S H c mi k kn ∧ kn ∈ S ∧ Own S H ∧ H d = some (.tup (l.map .bl)) ∧ l.length = mi.length ∧ mi.length ≤ 10 ∧ 1 ≤ k ∧ k ≤ 300 ∧
  NumS st mi ∧ Kn P w H kn (fW st mi k) mi.length N ∧ m < N ∧ 2 ^ mi.length * N ≤ sizeLine ∧
  ∀ H', Fz [kn] H H' → Own S H' → Kn P w H' kn (fW st mi k) mi.length N → Q (.int (wy st mi k m l : Nat)) H'
theorem ok_ways_B (T : Tx K mg) : ∀ B : Nat, FnW P w K mg base CX0 (B + 3) (He.ma K (He.ga K "Choices") "ways") T.fd_Choices_ways ["self", "done", "seasons"] (spWays (P := P) (w := w) (K := K) B)
  | 0 => ⟨fun vs H Q E h => (by obtain ⟨_, _, _, _, _, _, _, _, _, _, _, h, _⟩ := h; omega), fun A outer s H args us vs Q E l _ _ _ _ _ _ _ h => (by obtain ⟨_, _, _, _, _, _, _, _, _, _, _, h, _⟩ := h; omega)⟩
  | B + 1 => by
    have ih := ok_ways_B T B
    refine FunD.okW T.F_Choices_ways sc_Choices_ways (fun vs H Q E h => ?_) (fun cdv A outer s H vs Q E hr hw h => ?_)
    · obtain ⟨S, c, d, st, mi, k, kn, l, m, N, rfl, _⟩ := h; rfl
    · obtain ⟨S, c, d, st, mi, k, kn, l, m, N, rfl, hm, hc, hknS, ow, hd, hl, hn, hk1, hk2, num, hkn, hmN, hz, q⟩ := h
      have hu65 := hu65_ofH hr
      have hu := hu1_ofH hr
      refine ⟨_, (pss_cons (ps_if (pt_val (pe_callB (k_allT K rfl hw) rfl T.f_all (by decide +kernel) (pa_cons (pv 1) pa_nil))) (pss_one (ps_ret (pe_callTy call_int1 rfl T.f_int (by decide +kernel) (pa_cons (pe_cmpR op_eq (pv 2) pe_int (nomark _)) pa_nil)))) pss_nil)
      (pss_cons (ps_if (pt_cmpR op_gt (pe_callB (k_len K rfl) rfl T.f_len PySem.boot_len (pa_cons (lcW (own := [("one", 4)]) hw sc_Choices_ways.nd (k_wiT K rfl (pv 1)) (blkOk_by (own := [("one", 4)]) (N := ["self", "done", "seasons", "many", "one", "lot"]) (sc := (defScope s_Choices_ways)) (by decide +kernel)) (fun _ _ _ _ _ hw => (pg_name (i := 4) sc_Choices_ways.nd rfl (Or.inl rfl))) (fun _ _ _ _ _ hw => (pts_one (pt_not (pt_val (pv 4))))) (fun _ _ _ _ _ hw => (pv 4))) pa_nil)) (pe_op op_mul (pv 2) (k_fld K rfl (pv 0) rfl)) (nomark _)) (pss_one (ps_ret pe_int)) pss_nil)
      (pss_cons (ps_tryF rfl rfl (names_blt (by rfl) T.f_KeyError (by decide +kernel)) hw (by rfl) (fun W pn xe tk hw => (pss_one (ps_ret (k_known P w rfl rfl hw hu65 tk (k_fld K rfl (pv 0) rfl) (pe_tup (pa_cons (pv 1) (pa_cons (pv 2) pa_nil))) (fun _ _ => rfl))))) (fun a oe pn hw => have hr := roomS a ((a, oe) :: pn) hr; (pss_one (ps_set (i := 3) sc_Choices_ways.nd rfl (Or.inl rfl) (pe_callBK (k_sum0 K rfl hw) rfl T.f_sum (by decide +kernel) (pa_cons (lcW (own := [("lot", 5)]) hw sc_Choices_ways.nd (k_wiL K rfl (pe_methW (E := fun _ => E0) (pv 0) T.c_Choices T.m_Choices_lots ((ok_Choices_lots T)) (hr.mono (by omega)) hw (b_Choices_lots T) pass0W (pa_cons (pv 1) pa_nil))) (blkOk_by (own := [("lot", 5)]) (N := ["self", "done", "seasons", "many", "one", "lot"]) (sc := (defScope s_Choices_ways)) (by decide +kernel)) (fun _ _ _ _ _ hw => (pg_name (i := 5) sc_Choices_ways.nd rfl (Or.inl rfl))) (fun _ _ _ _ _ hw => pts_nil) (fun _ _ _ _ _ hw => (pe_methW (E := fun _ => E0) (pv 0) T.c_Choices T.m_Choices_ways (ih) (hr.mono (by omega)) hw (b_Choices_ways T) pass0W (pa_cons (pe_methW (E := fun _ => E0) (pv 0) T.c_Choices T.m_Choices_behind ((ok_Choices_behind T)) (hr.mono (by omega)) hw (b_Choices_behind T) pass0W (pa_cons (pv 1) (pa_cons (pv 5) pa_nil))) (pa_cons (pe_op op_sub (pv 2) pe_int) pa_nil))))) pa_nil) (pk_cons pe_int pk_nil))))))
      (pss_cons (ps_asg (pv 3) (pg_sub (k_fld K rfl (pv 0) rfl) (pe_tup (pa_cons (pv 1) (pa_cons (pv 2) pa_nil))) (set_known hu65)))
      (pss_one (ps_ret (pv 3))))))), ?_⟩
      obtain ⟨hcS, dx, vm, pb, hcc, hpb, avm, hpl⟩ := id hc
      refine ⟨_, rfl, d, l, rfl, .of hd, _, rfl, ite2 (fun e => ?_) fun e => ?_⟩
      · refine ⟨_, rfl, rfl, .inr ⟨_, rfl, ?_⟩⟩
        have qq := q H .refl ow hkn
        rw [wy_done hl e] at qq
        by_cases z : m = 0
        · subst z; exact qq
        · rw [if_neg z] at qq
          rw [decide_eq_false (fun y => z (by have := V.int.inj y; omega))]
          exact qq
      · refine ⟨_, rfl, d, rfl, ⟨_, .of hd⟩, fun D hD => ?_⟩
        refine lc_val (J := Itt K d) (n := l.length) (fun i => ((l.take i).filter fun b => !b).map V.bl) rfl (fun i hi => ?_) (by rw [sizeLine_eq]; omega) hD (fun i H1 sm => ⟨fun hi => ⟨_, _, .of (sm _ _ hd), get_bl hi⟩, fun hi => ⟨_, .of (sm _ _ hd), by rw [List.length_map]; omega⟩⟩) (fun i x H1 H2 hi sm hy => ?_) (fun H1 sm hD1 => ?_)
        · rw [List.length_map]
          exact Nat.le_trans (List.length_filter_le _ _) (by rw [List.length_take]; exact Nat.min_le_left _ _)
        · obtain ⟨rfl, hy⟩ := hy
          have hx := hy _ (.of (sm _ _ hd))
          rw [get_bl hi] at hx
          injection hx with hx
          subst hx
          have et : l.take (i + 1) = l.take i ++ [l.getD i false] := take_step (by rw [List.getD_eq_getElem?_getD, List.getElem?_eq_getElem hi]; rfl)
          refine ⟨.refl _, fun NF NT k1 k2 => ⟨rfl, _, rfl, _, rfl, ?_⟩⟩
          cases hb : l.getD i false with
          | true =>
            refine iteF (k1 ?_ _ (.refl _))
            show ((l.take (i + 1)).filter fun b => !b).map V.bl = _
            rw [et, hb, List.filter_append]; simp
          | false =>
            refine iteT ⟨_, rfl, k2 _ ?_ _ (.refl _)⟩
            show ((l.take (i + 1)).filter fun b => !b).map V.bl = _
            rw [et, hb, List.filter_append, List.map_append]; rfl
        · rw [List.take_length] at hD1
          refine ⟨D, _, rfl, .inl (.of hD1), _, rfl, _, rfl, c, _, dx, _, _, rfl, sm _ _ hcc, T.c_Choices, T.n_Choices_most, rfl, ?_⟩
          have c1 := sm _ _ hcc
          have d1 := sm _ _ hd
          have ow1 := ow.same sm
          have hc1 := hc.fz (.of sm)
          have kn1 := hkn.same sm
          have q1 : ∀ H', Fz [kn] H1 H' → Own S H' → Kn P w H' kn (fW st mi k) mi.length N → Q (.int (wy st mi k m l : Nat)) H' := fun H' f o n => q H' ((Fz.of sm).trans f) o n
          refine ⟨_, _, rfl, rfl, .inr ⟨by omega, by omega⟩, _, _, rfl, rfl, _, rfl, ite2 (fun e2 => ?_) fun e2 => ?_⟩
          · have e3 := of_decide_eq_true e2
            rw [List.length_map] at e3
            have e4 : m * k < (l.filter fun b => !b).length := by
              have : ((m * k : Nat) : Int) = (m : Int) * (k : Int) := Int.natCast_mul _ _
              omega
            have qq := q1 H1 .refl ow1 kn1
            rw [wy_many num hl e4] at qq
            exact qq
          · have e4 : ¬ m * k < (l.filter fun b => !b).length := fun z => e2 (decide_eq_true (by
              rw [List.length_map]
              have : ((m * k : Nat) : Int) = (m : Int) * (k : Int) := Int.natCast_mul _ _
              omega))
            have e5 : (l.filter fun b => !b) ≠ [] := fun z => e ((left_nil hl).mp (List.eq_nil_of_length_eq_zero (by rw [left_len mi l hl, z]; rfl)))
            have hm0 : m ≠ 0 := fun z => by
              rw [z, Nat.zero_mul] at e4
              exact e4 (List.length_pos_iff.mpr e5)
            obtain ⟨m', rfl⟩ : ∃ m', m = m' + 1 := ⟨m - 1, by omega⟩
            refine ⟨_, rfl, c, _, dx, _, _, rfl, c1, T.c_Choices, T.n_Choices_known, rfl, _, rfl, _, rfl, two_line, fun b hb => ?_⟩
            have sm2 := same_up (o := .tup [.ref d, .int ((m' + 1 : Nat) : Int)]) hb
            have ka : KeyAt (upd H1 b (.tup [.ref d, .int ((m' + 1 : Nat) : Int)])) b (l, m' + 1) := ⟨d, upd_same, sm2 _ _ d1⟩
            generalize upd H1 b (.tup [.ref d, .int ((m' + 1 : Nat) : Int)]) = H2 at sm2 ka
            refine ⟨kn, b, fW st mi k, _, N, (l, m' + 1), rfl, rfl, kn1.same sm2, ka, q1 _ (.of sm2) (ow1.same sm2) (kn1.same sm2), ?_⟩
            have c2 := sm2 _ _ c1
            have d2 := sm2 _ _ d1
            have ow2 := ow1.same sm2
            have hc2 := hc1.fz (.of sm2)
            have kn2 := kn1.same sm2
            refine ⟨_, rfl, c, dx, _, rfl, c2, rfl, _, rfl, S, c, d, mi, k, kn, l, rfl, hc2, ow2, .of d2, hl, hn, fun u H3 sm3 au => ?_⟩
            have c3 := sm3 _ _ c2
            have d3 := sm3 _ _ d2
            have ow3 := ow2.same sm3
            have hc3 := hc2.fz (.of sm3)
            have kn3 := kn2.same sm3
            have sm13 := sm2.trans sm3
            have hLz : (lots k (rdy mi l)).length ≤ 1024 := by
              unfold lots
              rw [srt_len, List.length_tail]
              exact Nat.le_trans (Nat.sub_le _ _) (subs_small k (Nat.le_trans (rdy_len mi l) hn))
            have hsum := wy_succ (k := k) (m := m') num hl e
            generalize lots k (rdy mi l) = LT at au hLz hsum
            obtain ⟨pL, xsL, rfl, hpL, hxsL⟩ := id au.list
            refine ⟨pL, rfl, ⟨_, .of (Hd_some hpL).2⟩, fun D3 hD3 => ?_⟩
            have npL : pL ∉ [D3, kn] := fun z => (List.mem_cons.mp z).elim (fun z => by have h := (Hd_some hpL).2; rw [z, hD3] at h; cases h) fun z => (Hd_some hpL).1 (by rw [List.mem_singleton.mp z]; exact hknS)
            have nD : ∀ b o, H3 b = some o → b ≠ D3 := fun b o e z => by rw [z, hD3] at e; cases e
            have knD : kn ≠ D3 := fun z => ow3 kn hknS (by rw [z]; exact hD3)
            refine lc_it (walk_list (K := K) (a := pL) (xs := xsL)) (fun i H' => Fz [D3, kn] H3 H' ∧ Own (D3 :: S) H' ∧ Kn P w H' kn (fW st mi k) mi.length N ∧ H' D3 = some (.lst ((LT.take i).map fun lot => V.int ((wy st mi k m' (plusL l lot) : Nat) : Int))))
              ⟨fun b o n e => by rw [upd_ne (nD b o e)]; exact e, own_in ow3 hD3, kn3.same (same_up hD3), upd_same⟩ (fun i H' _ h => .of (h.1 _ _ npL (Hd_some hpL).2)) (fun i x H4 H5 hi hP hy => ?_) (fun H4 hP => ?_)
            · obtain ⟨rfl, hx⟩ := hy
              obtain ⟨fz4, ow4, kn4, hD4⟩ := hP
              obtain ⟨lot, hlot, alot⟩ := hxsL.at hx
              have same4 := hd_own hknS hD3 fz4
              have ncD : c ∉ [D3, kn] := fun z => (List.mem_cons.mp z).elim (nD _ _ c3) fun z => hcS (by rw [List.mem_singleton.mp z]; exact hknS)
              have c4 := fz4 _ _ ncD c3
              have ndD : d ∉ [D3, kn] := fun z => (List.mem_cons.mp z).elim (nD _ _ d3) fun z => by
                have e1 := List.mem_singleton.mp z
                obtain ⟨⟨ys, y1, _⟩, _⟩ := kn3
                rw [← e1, d3] at y1; cases y1
              have d4 := fz4 _ _ ndD d3
              refine ⟨rfl, _, rfl, c, dx, _, rfl, c4, rfl, _, rfl, c, dx, _, rfl, c4, rfl, _, rfl, _, rfl, D3 :: S, c, d, x, l, lot, rfl, ow4, .of d4, by omega, alot.same same4, fun u H6 sm6 hu6 => ?_⟩
              have hn1 : (plusL l lot).length = mi.length := by rw [plusL_len]; exact hl
              refine ⟨_, rfl, _, _, rfl, rfl, D3 :: S, c, u, st, mi, k, kn, plusL l lot, m', N, by show [V.ref c, V.ref u, V.int (((m' + 1 : Nat) : Int) - 1)] = _; rw [show ((m' + 1 : Nat) : Int) - 1 = ((m' : Nat) : Int) by omega], by omega, (hc3.own hknS hD3 fz4).fz (.of sm6), List.mem_cons_of_mem _ hknS, ow4.same sm6, hu6, hn1, hn, hk1, hk2, num, kn4.same sm6, by omega, hz, fun H7 fz7 ow7 kn7 => ?_⟩
              have hD7 : H7 D3 = some (.lst ((LT.take i).map fun lot => V.int ((wy st mi k m' (plusL l lot) : Nat) : Int))) := fz7 _ _ (fun z => knD (List.mem_singleton.mp z).symm) (sm6 _ _ hD4)
              refine ⟨_, hD7, ?_, ?_, ow7.kp .upd, kn7.lst hD7, ?_⟩
              · rw [List.length_map, List.length_take, sizeLine_eq]; omega
              · exact ((fz4.trans (.of sm6)).trans (fz7.more fun b hb => List.mem_cons_of_mem _ hb)).trans (fz_upd List.mem_cons_self)
              · rw [upd_same, take_step hlot, List.map_append]; rfl
            · obtain ⟨fz4, ow4, kn4, hD4⟩ := hP
              rw [hxsL.len, List.take_length] at hD4
              refine ⟨D3, LT.map fun lot => ((wy st mi k m' (plusL l lot) : Nat) : Int), rfl, rfl, .of (by rw [hD4, List.map_map]; rfl), ?_⟩
              have es : (LT.map fun lot => ((wy st mi k m' (plusL l lot) : Nat) : Int)).sum = ((wy st mi k (m' + 1) l : Nat) : Int) := by
                rw [hsum, ← sum_cast, List.map_map]; rfl
              rw [es]
              have fzk : Fz [kn] H3 H4 := fun b o n e => fz4 b o (fun z => (List.mem_cons.mp z).elim (nD _ _ e) n) e
              have c4 := fzk _ _ (fun z => hcS (by rw [List.mem_singleton.mp z]; exact hknS)) c3
              have d4 := fzk _ _ (fun z => by
                have e1 := List.mem_singleton.mp z
                obtain ⟨⟨ys, y1, _⟩, _⟩ := kn3
                rw [← e1, d3] at y1; cases y1) d3
              have fz14 : Fz [kn] H1 H4 := (Fz.of sm13).trans fzk
              refine ⟨_, rfl, _, rfl, c, _, dx, _, _, rfl, c4, T.c_Choices, T.n_Choices_known, rfl, _, rfl, _, rfl, two_line, fun b2 hb2 => ?_⟩
              have sm5 := same_up (o := .tup [.ref d, .int ((m' + 1 : Nat) : Int)]) hb2
              have ka2 : KeyAt (upd H4 b2 (.tup [.ref d, .int ((m' + 1 : Nat) : Int)])) b2 (l, m' + 1) := ⟨d, upd_same, sm5 _ _ d4⟩
              refine ⟨kn, b2, fW st mi k, mi.length, N, (l, m' + 1), rfl, rfl, rfl, kn4.same sm5, ka2, hl, hmN, hz, fun xs knF => ⟨_, rfl, q1 _ ?_ ?_ knF⟩⟩
              · exact (fz14.trans (.of sm5)).trans (fz_upd (List.mem_singleton.mpr rfl))
              · exact (ow4.tail.same sm5).kp .upd
end
end Pw
end
section
set_option linter.all false
set_option maxRecDepth 100000
set_option maxHeartbeats 2000000
/-! Defs 12: the exception BadNumber. -/
namespace Pw
open PySem PySem.Spec PyProof.Rows L2
/-- what else is asked of the loaded program: the exception's classes -/
structure TxE (K : Fg) : Prop where
  x_BadNumber : OexC K (He.ga K "BadNumber")
  n_BadNumber_called : PySem.W.findIn K (.ref (He.ga K "BadNumber")) "called" = some none
  i_BadNumber : PySem.W.findIn K (.ref (He.ga K "BadNumber")) "__init__" = some (some (.ref (He.ma K (He.ga K "BadNumber") "__init__")))
  t_BadNumber_init : PySem.W.typeIn K (.ref (He.ma K (He.ga K "BadNumber") "__init__")) = some (.type "function")
  r_WallError : ClX.CRead K (He.ga K "WallError") (.type "type")
  m_WallError_init : PySem.W.findCls K (.ref (He.ga K "WallError")) (.type "type") "__init__" = some (.val (.ref (He.ma K (He.ga K "WallError") "__init__")))
  v_ValueError : PySem.W.findCls K (.type "ValueError") (.type "type") "__init__" = some (.val (.builtin "ValueError.__init__"))
section
variable {X : Cx} {CX : CXT} {k : Nat} {f C : Addr} {fd : FuncData} {ps : List Str} {sp : Sp} {E : XK} {m : Str} {pos apos : Pos} {e o : Expr} {es : List Expr} {ta : TE} {t : TA} {mc : Value}
def tCF (C : Addr) (sp : Sp) (E : XK) (ta : TE) (t : TA) : TE := fun σ H Q => ta σ H fun x H1 => x = .ref C ∧ t σ H1 fun vs H2 => sp vs H2 Q E
/-- C.m(e, ..), m a def of the class C, read off the class -/
theorem pe_cfun {pl : Sem Bool} (he : PE X o ta) (r : ClX.CRead X.K C mc) (ha' : PySem.W.findCls X.K (.ref C) mc m = some (.val (.ref f))) (hk : PySem.W.keepIn X.K (.ref f) = true) (F : FnOk X.prog X.w X.K X.mg X.base CX k f fd ps sp) (hr : Room k X.A) (hb : Binds X.K fd ps []) (hx : Passes CX X E) (ha : PA X (e :: es) t)
    (hst : starEach (e :: es) X.env = (false, eval e X.env) :: starEach es X.env := by rfl) (hpl : (backTo pos (starEach es X.env)).any (·.1) = false := by rfl)
    (ht : eval (.Call (.Attribute o m apos) (e :: es) [] pos) X.env = (do
      let ov ← eval o X.env
      standAt apos.atName
      let (f, first) ← holding [ov] (getMethod ov m pl)
      callWith pos f first (backTo pos (starEach (e :: es) X.env)) (backToKw pos (keywordEach [] X.env))) := by rfl) :
    PE X (.Call (.Attribute o m apos) (e :: es) [] pos) (tCF C sp E ta t) := by
  refine ⟨fun pins s σ H Q I h => ?_⟩
  refine PySem.W.methodCall_KW (pl := pl) (thn (he.run pins s σ H _ I h) fun u s1 ⟨x, H1, I1, rx, ex, q⟩ => ?_) ht
  subst ex
  obtain rfl : u = Value.ref C := rx
  refine PySem.W.method_cls I1.kIn r.ga (PySem.W.cls_value I1.kIn r.rd ha' rfl ?_)
  refine PySem.W.callWith_K (h₀ := X.base) I1.ok.mod.kin hk (thn (ha.run pos pins _ σ H1 _ (I1.tok _) q) fun us s2 ⟨vs, H2, I2, r2, q2⟩ => ⟨I2.kIn, ?_⟩) hst hpl
  refine run_fn (us := us) (vs := vs) (dvs := []) F hr hb .nil hx I2 r2 ?_
  rw [List.append_nil]
  exact q2
end
section
variable {P : Program} {w : World} {K : PySem.W.Frag} {mg : Str → Option Value} {base : Heap}
abbrev s_WallError_init : Stmt := inClass (top 1) 0
theorem sc_WallError_init : FnScope ["self", "text", "called"] ["self", "text", "called"] (defScope s_WallError_init) := ⟨rfl, rfl, rfl, by decide +kernel, rfl, by decide +kernel, by decide +kernel⟩
def spWallInit : Sp := fun vs H Q _ => ∃ (a C : Addr) (v1 v2 : V), vs = [.ref a, v1, v2] ∧ OexC K C ∧ PySem.W.findIn K (.ref C) "called" = some none ∧ H a = some (exo a C none) ∧
  ∀ dx, H dx = none → dx ≠ a → Q .non (upd (upd H dx (exd dx [("called", v2)])) a (exo a C (some dx)))
theorem ok_WallError_init (T : Tx K mg) (Z : TxE K) : FnOk P w K mg base CX0 1 (He.ma K (He.ga K "WallError") "__init__") T.fd_WallError_init ["self", "text", "called"] (spWallInit (K := K)) := by
  refine T.F_WallError_init.ok sc_WallError_init (fun vs H Q E h => ?_) (fun cdv A outer s H vs Q E hr h => ?_)
  · obtain ⟨a, C, v1, v2, rfl, _⟩ := h; rfl
  · obtain ⟨a, C, v1, v2, rfl, hC, hn, ha, q⟩ := h
    refine ⟨_, (pss_cons (ps_expr (pe_veinit (by rfl) T.f_ValueError Z.v_ValueError (pa_cons (pv 0) (pa_cons (pv 1) pa_nil))))
      (pss_one (ps_ost (pv 0) (pv 2)))), ?_⟩
    refine ⟨_, rfl, _, rfl, a, C, [v1], rfl, (show 1 ≤ 1000 by decide), hC, ha, _, rfl, _, rfl, a, C, rfl, hC, hn, .inl ⟨ha, fun dx h1 h2 => q dx h1 h2⟩⟩
abbrev s_BadNumber_init : Stmt := inClass (top 6) 0
theorem sc_BadNumber_init : FnScope ["self", "text"] ["self", "text"] (defScope s_BadNumber_init) := ⟨rfl, rfl, rfl, by decide +kernel, rfl, by decide +kernel, by decide +kernel⟩
def spBadInit : Sp := fun vs H Q _ => ∃ (a C : Addr) (v1 : V), vs = [.ref a, v1] ∧ OexC K C ∧ PySem.W.findIn K (.ref C) "called" = some none ∧ H a = some (exo a C none) ∧
  ∀ dx, H dx = none → dx ≠ a → Q .non (upd (upd H dx (exd dx [("called", .str "BadNumber")])) a (exo a C (some dx)))
theorem ok_BadNumber_init (T : Tx K mg) (Z : TxE K) : FnOk P w K mg base CX0 2 (He.ma K (He.ga K "BadNumber") "__init__") T.fd_BadNumber_init ["self", "text"] (spBadInit (K := K)) := by
  refine T.F_BadNumber_init.ok sc_BadNumber_init (fun vs H Q E h => ?_) (fun cdv A outer s H vs Q E hr h => ?_)
  · obtain ⟨a, C, v1, rfl, _⟩ := h; rfl
  · obtain ⟨a, C, v1, rfl, hC, hn, ha, q⟩ := h
    refine ⟨_, (pss_one (ps_expr (pe_cfun (pe_glob (v := .ref (He.ga K "WallError")) rfl T.g_WallError rfl) Z.r_WallError Z.m_WallError_init T.F_WallError_init.kp (ok_WallError_init T Z) (hr.mono (by decide)) (b_WallError_init T) pass0 (pa_cons (pv 0) (pa_cons (pv 1) (pa_cons pe_str pa_nil)))))), ?_⟩
    exact ⟨rfl, _, rfl, _, rfl, a, C, v1, .str "BadNumber", rfl, hC, hn, ha, q⟩
theorem b_BadNumber_init (T : Tx K mg) : Binds K T.fd_BadNumber_init (["self", "text"] : List Str) [] := by
  obtain ⟨ds, h1, h2⟩ := T.F_BadNumber_init.binds1 (ps := ["self", "text"]) 2 1 (by simp) rfl fun D kV doc pm an cdv ct us its hl hi => match us, its, hl, hi with
    | [_, _], [_], _, _ => ⟨_, rfl, rfl⟩
  cases h1
  exact h2
end
end Pw
end
section
set_option linter.all false
set_option maxRecDepth 100000
set_option maxHeartbeats 2000000
/-! Defs 13: choices_for, count_in. -/
namespace Pw
open PySem PySem.Spec PyProof.Rows L2
/-- what a task keeps -/
structure TaskOk (st wi : List Spot) : Prop where
  l1 : st.length < 64
  l2 : wi.length < 64
  g1 : GoodS st
  g2 : GoodS wi
  tr : ∀ s ∈ wi, ∃ t ∈ st, t.1 = s.1
  fr : FreeW st wi
  few : (lack st wi).length ≤ 10
theorem root_in {l : List Spot} (g : GoodS l) : ∀ (n : Nat) (t : Spot), t.2.length ≤ n → t ∈ l → (t.1, ([] : W)) ∈ l
  | 0, t, h, ht => by
    have e : t.2 = [] := List.eq_nil_of_length_eq_zero (by omega)
    rw [← e]; exact ht
  | n + 1, t, h, ht => by
    by_cases e : t.2 = []
    · rw [← e]; exact ht
    · exact root_in g n (t.1, t.2.dropLast) (by rw [List.length_dropLast]; omega) ((g t ht).2.2 e)
theorem TaskOk.roots {st wi : List Spot} (h : TaskOk st wi) : ∀ s ∈ lack st wi, (s.1, ([] : W)) ∈ st := fun s hs => by
  obtain ⟨t, ht, e⟩ := h.tr s (mem_lack.mp hs).1
  rw [← e]
  exact root_in h.g1 _ t (Nat.le_refl _) ht
theorem TaskOk.short {st wi : List Spot} (h : TaskOk st wi) : ∀ s ∈ lack st wi, s.2.length ≤ 16 := fun s hs => by
  have := (h.g2 s (mem_lack.mp hs).1).2.1
  unfold wordB at this
  exact of_decide_eq_true (Bool.and_eq_true_iff.mp this).1
theorem TaskOk.dep {st wi : List Spot} (h : TaskOk st wi) : ∀ s ∈ lack st wi, dpS st s ≤ 16 := fun s hs => Nat.le_trans (dpS_spec (h.roots s hs)).1 (h.short s hs)
/-- the fewest seasons -/
def rowT (st wi : List Spot) : List Nat := rowS ((lack st wi).map (dpS st))
theorem TaskOk.row {st wi : List Spot} (h : TaskOk st wi) : (rowT st wi).length ≤ 16 := by
  unfold rowT rowS
  rw [List.length_map, List.length_range]
  rcases Nat.eq_zero_or_pos (maxl ((lack st wi).map (dpS st))) with z | z
  · omega
  · obtain ⟨s, hs, e⟩ := List.mem_map.mp (maxl_mem z)
    rw [← e]
    exact h.dep s hs
def fewT (st wi : List Spot) (k : Nat) : Nat := maxl (bnds (rowT st wi) k)
theorem none_in {K : Fg} {G H : Hp} {y : V} {l : List Nat} {Q : VK} (hl : At G (eList eNat) y l) (g : Same G H) (q : Q (.bl false) H) : rInD K .non y H Q := by
  refine ⟨.none, l.map eNat.e, .non, hl.dp g, rfl, (eList eNat).shaped hl.2 (by decide), ?_⟩
  have e : ((l.map eNat.e).any fun z => PyData.eqv z .none) = false := by
    rw [List.any_map, List.any_eq_false]
    exact fun x _ z => by cases z
  rw [e]; exact q
section
variable {P : Program} {w : World} {K : PySem.W.Frag} {mg : Str → Option Value} {base : Heap}
abbrev s_choices_for : Stmt := top 40
theorem sc_choices_for : FnScope ["standing", "wished", "sap", "missing", "found"] ["standing", "wished", "sap"] (defScope s_choices_for) := ⟨rfl, rfl, rfl, by decide +kernel, rfl, by decide +kernel, by decide +kernel⟩
def spChoicesFor : Sp := fun vs H Q _ => ∃ (S : List Addr) (v1 v2 : V) (st wi : List Spot) (k : Nat), vs = [v1, v2, .int k] ∧ At (Hd S H) eSpots v1 st ∧ At (Hd S H) eSpots v2 wi ∧ Own S H ∧ TaskOk st wi ∧ 1 ≤ k ∧ k ≤ 300 ∧
  ∀ u c kn H', Same H H' → H' u = some (.tup [.ref c, .int (fewT st wi k : Nat)]) → ChAt K (kn :: S) H' c (lack st wi) k kn → Own (kn :: S) H' → H kn = none → (∀ f L N, Kn P w H' kn f L N) → Q (.ref u) H'
theorem ok_choices_for (T : Tx K mg) : FnOk P w K mg base CX0 4 (He.ga K "choices_for") T.fd_choices_for ["standing", "wished", "sap"] (spChoicesFor (P := P) (w := w) (K := K)) := by
  refine T.F_choices_for.ok sc_choices_for (fun vs H Q E h => ?_) (fun cdv A outer s H vs Q E hr h => ?_)
  · obtain ⟨S, v1, v2, st, wi, k, rfl, _⟩ := h; rfl
  · obtain ⟨S, v1, v2, st, wi, k, rfl, hv1, hv2, ow, tk, hk1, hk2, q⟩ := h
    have hu65 := hu65_of hr
    have hu := hu1_of hr
    refine ⟨_, (pss_cons (ps_expr (pe_call (ok_need_spots T) (hr.mono (by decide)) rfl T.g_need_spots T.F_need_spots.kp (b_need_spots T) .nil pass0 (pa_cons (pv 0) (pa_cons (pv 1) pa_nil))))
      (pss_cons (ps_expr (pe_call (ok_need_sap T) (hr.mono (by decide)) rfl T.g_need_sap T.F_need_sap.kp (b_need_sap T) .nil pass0 (pa_cons (pv 2) pa_nil)))
      (pss_cons (ps_expr (pe_call (ok_need_free T) (hr.mono (by decide)) rfl T.g_need_free T.F_need_free.kp (b_need_free T) .nil pass0 (pa_cons (pv 0) (pa_cons (pv 1) pa_nil))))
      (pss_cons (ps_set (i := 3) sc_choices_for.nd rfl (Or.inl rfl) (pe_call (ok_lacking_of T) (hr.mono (by decide)) rfl T.g_lacking_of T.F_lacking_of.kp (b_lacking_of T) .nil pass0 (pa_cons (pv 0) (pa_cons (pv 1) pa_nil))))
      (pss_cons (ps_if (pt_cmpR op_gt (pe_callB (k_len K rfl) rfl T.f_len PySem.boot_len (pa_cons (pv 3) pa_nil)) (pe_glob (v := .int 10) rfl T.g_MOST_LACKING ⟨_, rfl⟩) (nomark _)) (pss_one ps_never) pss_nil)
      (pss_cons (ps_set (i := 4) sc_choices_for.nd rfl (Or.inl rfl) (pe_call (ok_bounds T) (hr.mono (by decide)) rfl T.g_bounds T.F_bounds.kp (b_bounds T) .nil pass0 (pa_cons (pe_call (ok_row_of T) (hr.mono (by decide)) rfl T.g_row_of T.F_row_of.kp (b_row_of T) .nil pass0 (pa_cons (pe_call (ok_over_standing T) (hr.mono (by decide)) rfl T.g_over_standing T.F_over_standing.kp (b_over_standing T) .nil pass0 (pa_cons (pv 0) (pa_cons (pv 3) pa_nil))) pa_nil)) (pa_cons (pv 2) pa_nil))))
      (pss_cons (ps_if (pt_cmpR (k_in K rfl hu65) pe_non (pv 4) (by rfl)) (pss_one (ps_ret (pe_tup (pa_cons (pe_make T.k_Choices (ok_Choices_init T) (hr.mono (by decide)) rfl T.g_Choices (b_Choices_init T) .nil pass0 (pa_cons (pv 3) (pa_cons (pv 2) pa_nil))) (pa_cons pe_non pa_nil))))) pss_nil)
      (pss_one (ps_ret (pe_tup (pa_cons (pe_make T.k_Choices (ok_Choices_init T) (hr.mono (by decide)) rfl T.g_Choices (b_Choices_init T) .nil pass0 (pa_cons (pv 3) (pa_cons (pv 2) pa_nil))) (pa_cons (pe_callBK (k_max0 K rfl rfl hu65) rfl T.f_max (by decide +kernel) (pa_cons (pv 4) pa_nil) (pk_cons pe_int pk_nil)) pa_nil)))))))))))), ?_⟩
    refine ⟨_, rfl, _, rfl, S, v1, v2, st, wi, rfl, hv1, hv2, ow, tk.l1, tk.l2, tk.g1, tk.g2, tk.tr, fun H1 sm1 => ?_⟩
    refine ⟨_, rfl, (k : Int), rfl, by omega, by omega, ?_⟩
    refine ⟨_, rfl, _, rfl, S, v1, v2, st, wi, rfl, hv1.up sm1, hv2.up sm1, ow.same sm1, tk.l1, tk.l2, tk.fr, fun H2 sm2 => ?_⟩
    have sm02 := sm1.trans sm2
    refine ⟨_, rfl, _, rfl, S, v1, v2, st, wi, rfl, hv1.up sm02, hv2.up sm02, ow.same sm02, tk.l1, tk.l2, fun u H3 sm3 au => ?_⟩
    have sm03 := sm02.trans sm3
    obtain ⟨pm, xm, rfl, hpm, hxm⟩ := id au.list
    refine ⟨_, rfl, pm, xm, rfl, .inl (.of (Hd_some hpm).2), _, _, rfl, rfl, _, rfl, ?_⟩
    refine ite2 (fun e => ?_) fun _ => ?_
    · have e := of_decide_eq_true e
      have := tk.few
      have := hxm.len
      omega
    have ow3 := ow.same sm03
    have am3 : At (Hd S H3) eSpots (.ref pm) (lack st wi) := au
    refine ⟨_, rfl, _, rfl, S, v1, _, st, lack st wi, rfl, hv1.up sm03, am3, ow3, tk.l1, by have := tk.few; omega, (lack_up st wi).nodup, tk.roots, fun pd H4 npd sm4 hpd => ?_⟩
    refine ⟨S, pd, lack st wi, dpS st, rfl, hpd, ow3.same sm4, by have := tk.few; omega, fun s hs => Nat.le_trans (tk.dep s hs) (by decide), fun ur H5 sm5 ar => ?_⟩
    have sm05 := (sm03.trans sm4).trans sm5
    refine ⟨_, rfl, S, ur, rowT st wi, k, rfl, ar, ow.same sm05, Nat.le_trans tk.row (by decide), hk1, hk2, fun uf H6 sm6 af => ?_⟩
    have sm06 := sm05.trans sm6
    have am6 : At (Hd S H6) eSpots (.ref pm) (lack st wi) := am3.up ((sm4.trans sm5).trans sm6)
    refine ⟨_, rfl, none_in af hd_to ⟨_, rfl, iteF ?_⟩⟩
    refine ⟨_, rfl, _, rfl, mk_choices (ow.same sm06) am6 (by have := tk.few; omega) (fun c kn H7 sm7 nkn nc hc ow7 knw => ?_)⟩
    obtain ⟨pf, xf, rfl, hpf, hxf⟩ := id (af.up sm7).list
    obtain rfl := nats_of hxf
    refine ⟨_, rfl, pf, bnds (rowT st wi) k, rfl, rfl, .of (Hd_some hpf).2, two_line, fun u hu => ?_⟩
    have sm8 := same_up (o := .tup [.ref c, .int (maxl (bnds (rowT st wi) k) : Nat)]) hu
    have nk : H kn = none := by
      cases z : H kn with
      | none => rfl
      | some o => rw [sm06 _ _ z] at nkn; cases nkn
    exact q u c kn _ ((sm06.trans sm7).trans sm8) upd_same (hc.fz (.of sm8)) (ow7.same sm8) nk fun f L N => (knw f L N).same sm8
end
end Pw
end
section
set_option linter.all false
set_option maxRecDepth 100000
set_option maxHeartbeats 2000000
/-! Numbers 2: the plans by lists of bools. -/
namespace Pw
def plansL (st mi : List Spot) (k m : Nat) (l : List Bool) : List (List (List Spot)) := plansI parS k st mi.length (fS mi) m (dS l)
theorem plansL_len (st mi : List Spot) (k m : Nat) (l : List Bool) : (plansL st mi k m l).length = wy st mi k m l := rfl
def lotF (st mi : List Spot) (k m : Nat) (l : List Bool) (lot : List Nat) : List (List (List Spot)) := (plansL st mi k m (plusL l lot)).map fun r => lot.map (fS mi) :: r
theorem plansL_succ {st mi : List Spot} {k m : Nat} {l : List Bool} (N : NumS st mi) (h : l.length = mi.length) (e : ¬ l.all id = true) : plansL st mi k (m + 1) l = (lots k (rdy mi l)).flatMap (lotF st mi k m l) := by
  unfold plansL
  rw [N.plansI k m fun z => e ((left_nil h).mp z)]
  refine congrArg (fun g => (lots k (rdy mi l)).flatMap g) (funext fun lot => ?_)
  show List.map _ (Pw.plansI parS k st mi.length (fS mi) m (plus (dS l) lot)) = List.map _ (Pw.plansI parS k st mi.length (fS mi) m (dS (plusL l lot)))
  rw [plansI_congr (fun i hi => (dS_plus (lot := lot) (by omega : i < l.length)).symm) m]
theorem plansL_done {st mi : List Spot} {k m : Nat} {l : List Bool} (h : l.length = mi.length) (e : l.all id = true) : plansL st mi k m l = if m = 0 then [[]] else [] := by
  unfold plansL Pw.plansI
  rw [(left_nil h).mpr e, plans_nil]
theorem plansL_zero {st mi : List Spot} {k : Nat} {l : List Bool} {i : Nat} {r : List (List Spot)} (h : (plansL st mi k 0 l)[i]? = some r) : r = [] := by
  unfold plansL Pw.plansI at h
  rw [plans_zero] at h
  have hm := List.mem_of_getElem? h
  split at hm
  · exact List.mem_singleton.mp hm
  · cases hm
theorem none_done (mi : List Spot) : doneI mi.length (fS mi) (dS (List.replicate mi.length false)) = [] := by
  unfold doneI pick
  rw [List.map_eq_nil_iff, List.filter_eq_nil_iff]
  intro i _
  unfold dS
  rw [List.getD_eq_getElem?_getD, List.getElem?_replicate]
  split <;> simp
theorem fS_all (mi : List Spot) : (List.range mi.length).map (fS mi) = mi := by
  refine List.ext_getElem? fun i => ?_
  rw [List.getElem?_map]
  rcases Nat.lt_or_ge i mi.length with z | z
  · rw [List.getElem?_range z, List.getElem?_eq_getElem z]
    unfold fS
    rw [Option.map_some, List.getD_eq_getElem?_getD, List.getElem?_eq_getElem z]; rfl
  · rw [List.getElem?_eq_none_iff.mpr z, List.getElem?_eq_none_iff.mpr (by rw [List.length_range]; exact z)]; rfl
theorem none_left (mi : List Spot) : leftI mi.length (fS mi) (dS (List.replicate mi.length false)) = mi := by
  unfold leftI pick
  rw [List.filter_eq_self.mpr, fS_all]
  intro i _
  unfold dS
  rw [List.getD_eq_getElem?_getD, List.getElem?_replicate]
  split <;> simp
/-- all plans -/
theorem plansL_all (st mi : List Spot) (k m : Nat) : plansL st mi k m (List.replicate mi.length false) = plans parS k m st mi := by
  unfold plansL Pw.plansI
  rw [none_done, none_left, List.append_nil]
/-- one lot more is looked at -/
theorem lot_step {st mi : List Spot} {k m : Nat} {l : List Bool} {LT : List (List Nat)} {j x : Nat} {lot : List Nat} {r : List (List Spot)} (hj : LT[j]? = some lot) (h : ((LT.drop j).flatMap (lotF st mi k m l))[x]? = some r) :
    (x < wy st mi k m (plusL l lot) ∧ ∃ r', (plansL st mi k m (plusL l lot))[x]? = some r' ∧ r = lot.map (fS mi) :: r') ∨ (wy st mi k m (plusL l lot) ≤ x ∧ ((LT.drop (j + 1)).flatMap (lotF st mi k m l))[x - wy st mi k m (plusL l lot)]? = some r) := by
  obtain ⟨hlt, e⟩ := List.getElem?_eq_some_iff.mp hj
  rw [List.drop_eq_getElem_cons hlt, e, flat_step] at h
  have el : (lotF st mi k m l lot).length = wy st mi k m (plusL l lot) := by
    unfold lotF
    rw [List.length_map, plansL_len]
  rw [el] at h
  by_cases c : x < wy st mi k m (plusL l lot)
  · rw [if_pos c] at h
    unfold lotF at h
    rw [List.getElem?_map] at h
    obtain ⟨r', h1, h2⟩ := Option.map_eq_some_iff.mp h
    exact .inl ⟨c, r', h1, h2.symm⟩
  · rw [if_neg c] at h
    exact .inr ⟨Nat.le_of_not_lt c, h⟩
end Pw
end
section
set_option linter.all false
set_option maxRecDepth 100000
set_option maxHeartbeats 2000000
/-! Defs 14: count_in, numbered. -/
namespace Pw
open PySem PySem.Spec PyProof.Rows L2
section
variable {P : Program} {w : World} {K : PySem.W.Frag} {mg : Str → Option Value} {base : Heap}
theorem ok_Choices_ways (T : Tx K mg) : FnOk P w K mg base CX0 33 (He.ma K (He.ga K "Choices") "ways") T.fd_Choices_ways ["self", "done", "seasons"] (spWays (P := P) (w := w) (K := K) 30) := (ok_ways_B T 30).cold
theorem pow_small {n : Nat} (h : n ≤ 10) : 2 ^ n * 30 ≤ sizeLine := by
  have := Nat.pow_le_pow_right (n := 2) (by decide) h
  rw [sizeLine_eq]
  omega
theorem rep_bl (n : Nat) : (List.replicate n [V.bl false]).flatten = (List.replicate n false).map V.bl := by
  induction n with
  | zero => rfl
  | succ n ih => rw [List.replicate_succ, List.flatten_cons, ih, List.replicate_succ, List.map_cons]; rfl
abbrev s_count_in : Stmt := top 41
theorem sc_count_in : FnScope ["choices", "seasons"] ["choices", "seasons"] (defScope s_count_in) := ⟨rfl, rfl, rfl, by decide +kernel, rfl, by decide +kernel, by decide +kernel⟩
def spCountIn : Sp := fun vs H Q _ => ∃ (S : List Addr) (c : Addr) (st mi : List Spot) (k : Nat) (kn : Addr) (m : Nat), vs = [.ref c, .int m] ∧ m < 30 ∧ ChAt K S H c mi k kn ∧ kn ∈ S ∧ Own S H ∧ mi.length ≤ 10 ∧ 1 ≤ k ∧ k ≤ 300 ∧
  NumS st mi ∧ Kn P w H kn (fW st mi k) mi.length 30 ∧
  ∀ H', Fz [kn] H H' → Own S H' → Kn P w H' kn (fW st mi k) mi.length 30 → Q (.int (wy st mi k m (List.replicate mi.length false) : Nat)) H'
theorem ok_count_in (T : Tx K mg) : FnOk P w K mg base CX0 34 (He.ga K "count_in") T.fd_count_in ["choices", "seasons"] (spCountIn (P := P) (w := w) (K := K)) := by
  refine T.F_count_in.ok sc_count_in (fun vs H Q E h => ?_) (fun cdv A outer s H vs Q E hr h => ?_)
  · obtain ⟨S, c, st, mi, k, kn, m, rfl, _⟩ := h; rfl
  · obtain ⟨S, c, st, mi, k, kn, m, rfl, hm, hc, hk, ow, hn, hk1, hk2, num, hkn, q⟩ := h
    have hu65 := hu65_of hr
    have hu := hu1_of hr
    refine ⟨_, (pss_cons (ps_if (pt_cmpR op_isN (pv 1) pe_non (nomark _)) (pss_one (ps_ret pe_int)) pss_nil)
      (pss_one (ps_ret (pe_meth (pv 0) T.c_Choices T.m_Choices_ways (ok_Choices_ways T) (hr.mono (by decide)) (b_Choices_ways T) .nil pass0 (pa_cons (pe_callTy (k_tupOf K rfl) rfl T.f_tuple (by decide +kernel) (pa_cons (pe_op op_rep (pe_lst (pa_cons pe_bl pa_nil)) (pe_callB (k_len K rfl) rfl T.f_len PySem.boot_len (pa_cons (k_fld K rfl (pv 0) rfl) pa_nil))) pa_nil)) (pa_cons (pv 1) pa_nil)))))), ?_⟩
    obtain ⟨hcS, dx, vm, pb, hcc, hpb, avm, hpl⟩ := id hc
    refine ⟨_, rfl, rfl, _, rfl, iteF ?_⟩
    refine ⟨_, rfl, c, dx, _, rfl, hcc, rfl, by show 1 ≤ sizeLine; rw [sizeLine_eq]; decide, fun f0 hf0 => ?_⟩
    have s0 := same_up (o := .lst [.bl false]) hf0
    obtain ⟨pm, xm, rfl, hpm, hxm⟩ := id (avm.up s0).list
    have g0 : upd H f0 (.lst [.bl false]) f0 = some (.lst [.bl false]) := upd_same
    generalize upd H f0 (.lst [.bl false]) = H1 at s0 hpm hxm g0
    refine ⟨_, rfl, c, _, dx, _, _, rfl, s0 _ _ hcc, T.c_Choices, T.n_Choices_missing, rfl, pm, xm, rfl, .inl (.of (Hd_some hpm).2), f0, (xm.length : Int), _, rfl, rfl, g0, by omega, by have := hxm.len; omega, ?_, fun p hp => ?_⟩
    · rw [hxm.len, sizeLine_eq]
      show 1 * mi.length ≤ _
      omega
    · have s1 := same_up (o := .lst (List.replicate ((xm.length : Nat) : Int).toNat [V.bl false]).flatten) hp
      refine ⟨p, _, rfl, .inl ⟨.of upd_same, fun t ht => ?_⟩⟩
      have s2 := same_up (o := .tup (List.replicate ((xm.length : Nat) : Int).toNat [V.bl false]).flatten) ht
      have sm := (s0.trans s1).trans s2
      have hl : (List.replicate mi.length false).length = mi.length := List.length_replicate ..
      refine ⟨_, rfl, S, c, t, st, mi, k, kn, List.replicate mi.length false, m, 30, rfl, hm, hc.fz (.of sm), hk, ow.same sm, ?_, hl, hn, hk1, hk2, num, hkn.same sm, hm, pow_small hn, fun H' fz o n => q H' ((Fz.of sm).trans fz) o n⟩
      rw [upd_same, show ((xm.length : Nat) : Int).toNat = xm.length from rfl, hxm.len, rep_bl]
end
end Pw
end
section
set_option linter.all false
set_option maxRecDepth 100000
set_option maxHeartbeats 2000000
/-! Defs 15: numbered. -/
namespace Pw
open PySem PySem.Spec PyProof.Rows L2
section
variable {P : Program} {w : World} {K : PySem.W.Frag} {mg : Str → Option Value} {base : Heap}
/-- tuple([False] * len(choices.missing)) -/
theorem false_tup (T : Tx K mg) {S : List Addr} {c : Addr} {mi : List Spot} {k : Nat} {kn : Addr} {σ : L2.St} {H : Hp} {Q : VK} {i : Nat} (hσ : σ[i]? = some (some (.ref c))) (hc : ChAt K S H c mi k kn) (hn : mi.length ≤ 10)
    (q : ∀ t H', Same H H' → H' t = some (.tup ((List.replicate mi.length false).map V.bl)) → Q (.ref t) H') :
    tCB (rTupOf K) (tCons (tOp rRep (tLst (tCons (tC (V.bl false)) tNil)) (tCB (rLen K) (tCons (tFld K (tVar i) "missing") tNil))) tNil) σ H Q := by
  obtain ⟨hcS, dx, vm, pb, hcc, hpb, avm, hpl⟩ := id hc
  refine ⟨by show 1 ≤ sizeLine; rw [sizeLine_eq]; decide, fun f0 hf0 => ?_⟩
  have s0 := same_up (o := .lst [.bl false]) hf0
  obtain ⟨pm, xm, rfl, hpm, hxm⟩ := id (avm.up s0).list
  have g0 : upd H f0 (.lst [.bl false]) f0 = some (.lst [.bl false]) := upd_same
  generalize upd H f0 (.lst [.bl false]) = H1 at s0 hpm hxm g0
  refine ⟨_, hσ, c, _, dx, _, _, rfl, s0 _ _ hcc, T.c_Choices, T.n_Choices_missing, rfl, pm, xm, rfl, .inl (.of (Hd_some hpm).2), f0, (xm.length : Int), _, rfl, rfl, g0, by omega, by have := hxm.len; omega, ?_, fun p hp => ?_⟩
  · rw [hxm.len, sizeLine_eq]
    show 1 * mi.length ≤ _
    omega
  · have s1 := same_up (o := .lst (List.replicate ((xm.length : Nat) : Int).toNat [V.bl false]).flatten) hp
    refine ⟨p, _, rfl, .inl ⟨.of upd_same, fun t ht => ?_⟩⟩
    have s2 := same_up (o := .tup (List.replicate ((xm.length : Nat) : Int).toNat [V.bl false]).flatten) ht
    refine q t _ ((s0.trans s1).trans s2) ?_
    rw [upd_same, show ((xm.length : Nat) : Int).toNat = xm.length from rfl, hxm.len, rep_bl]
theorem PlanAt.out {S : List Addr} {a : Addr} {H : Hp} {p : Addr} {ss : List (List Spot)} (h : PlanAt K (a :: S) H p ss) : PlanAt K S H p ss := by
  obtain ⟨n, dx, u, h1, h2⟩ := h
  exact ⟨fun z => n (List.mem_cons_of_mem _ z), dx, u, h1, h2.same (hd_out fun b hb => List.mem_cons_of_mem _ hb)⟩
theorem bad_mk {H1 : Hp} {v : V} {Qx : XK} (Z : TxE K) (q : ∀ d H', Same H1 H' → Qx (.ref (He.ga K "BadNumber")) (some d) H') : ∀ a, H1 a = none → spBadInit (K := K) (.ref a :: ([v] ++ [])) (upd H1 a (exo a (He.ga K "BadNumber") none))
    (fun v H2 => v = .non ∧ ∃ (d : Addr) (fs : List (Str × V)), H2 a = some (exo a (He.ga K "BadNumber") (some d)) ∧ H2 d = some (exd d fs) ∧ H1 d = none ∧ Qx (.ref (He.ga K "BadNumber")) (some d) (upd (del H2 a) d (.xd fs))) (fun _ _ _ => False) := fun a ha =>
  ⟨a, He.ga K "BadNumber", v, rfl, Z.x_BadNumber, Z.n_BadNumber_called, upd_same, fun dx h1 h2 => ⟨rfl, dx, [("called", .str "BadNumber")], upd_same, by rw [upd_ne h2]; exact upd_same, upd_no h1, q dx _ fun b o e => by
    have na : b ≠ a := fun z => by rw [z, ha] at e; cases e
    have nd : b ≠ dx := fun z => by rw [z, upd_no h1] at e; cases e
    rw [upd_ne nd, del_ne na, upd_ne na, upd_ne nd, upd_ne na]
    exact e⟩⟩
theorem fz_same {kn : Addr} {H H1 H2 : Hp} (h : H kn = none) (s : Same H H1) (f : Fz [kn] H1 H2) : Same H H2 := fun b o e => f b o (fun z => by rw [List.mem_singleton.mp z, h] at e; cases e) (s b o e)
abbrev s_numbered : Stmt := top 42
theorem sc_numbered : FnScope ["standing", "wished", "number", "sap", "choices", "seasons", "done", "found", "left", "lot", "many", "at"] ["standing", "wished", "number", "sap"] (defScope s_numbered) := ⟨rfl, rfl, rfl, by decide +kernel, rfl, by decide +kernel, by decide +kernel⟩
def plansT (st wi : List Spot) (k : Nat) : List (List (List Spot)) := plans parS k (fewT st wi k) st (lack st wi)
def spNumbered : Sp := fun vs H Q E => ∃ (S : List Addr) (v1 v2 : V) (st wi : List Spot) (num : Int) (k : Nat), vs = [v1, v2, .int num, .int k] ∧ At (Hd S H) eSpots v1 st ∧ At (Hd S H) eSpots v2 wi ∧ Own S H ∧ TaskOk st wi ∧ NumS st (lack st wi) ∧ fewT st wi k < 30 ∧ 1 ≤ k ∧ k ≤ 300 ∧
  (∀ p H' r, 0 ≤ num → (plansT st wi k)[num.toNat]? = some r → Same H H' → PlanAt K S H' p r → Q (.ref p) H') ∧
  (¬ (0 ≤ num ∧ num < ((plansT st wi k).length : Nat)) → ∀ d H', Same H H' → E (.ref (He.ga K "BadNumber")) d H')
theorem ok_numbered (T : Tx K mg) (Z : TxE K) : FnOk P w K mg base (L2.CX P w) 35 (He.ga K "numbered") T.fd_numbered ["standing", "wished", "number", "sap"] (spNumbered (K := K)) := by
  refine T.F_numbered.ok sc_numbered (fun vs H Q E h => ?_) (fun cdv A outer s H vs Q E hr h => ?_)
  · obtain ⟨S, v1, v2, st, wi, num, k, rfl, _⟩ := h; rfl
  · obtain ⟨S, v1, v2, st, wi, num, k, rfl, hv1, hv2, ow, tk, nS, hfew, hk1, hk2, qok, qbad⟩ := h
    have hu65 := hu65_of hr
    have hu := hu1_of hr
    refine ⟨_, (pss_cons (ps_asg (pe_call (ok_choices_for T) (hr.mono (by decide)) rfl T.g_choices_for T.F_choices_for.kp (b_choices_for T) .nil pass0 (pa_cons (pv 0) (pa_cons (pv 1) (pa_cons (pv 3) pa_nil)))) (k_pgT K rfl (n := 2) rfl (pgs_cons (pg_name (i := 4) sc_numbered.nd rfl (Or.inr rfl)) (pgs_cons (pg_name (i := 5) sc_numbered.nd rfl (Or.inl rfl)) pgs_nil))))
      (pss_cons (ps_if (pt_not (pt_chain op_le op_lt pe_int (pv 2) (pe_call (ok_count_in T) (hr.mono (by decide)) rfl T.g_count_in T.F_count_in.kp (b_count_in T) .nil pass0 (pa_cons (pv 4) (pa_cons (pv 5) pa_nil))))) (pss_one (ps_raise rfl (takes_of rfl rfl rfl rfl) (pmk_oex Z.x_BadNumber Z.i_BadNumber Z.t_BadNumber_init (ok_BadNumber_init T Z) (hr.mono (by decide)) (b_BadNumber_init T) .nil pass0 rfl T.g_BadNumber (pa_cons pe_str pa_nil)))) pss_nil)
      (pss_cons (ps_set (i := 6) sc_numbered.nd rfl (Or.inl rfl) (pe_callTy (k_tupOf K rfl) rfl T.f_tuple (by decide +kernel) (pa_cons (pe_op op_rep (pe_lst (pa_cons pe_bl pa_nil)) (pe_callB (k_len K rfl) rfl T.f_len PySem.boot_len (pa_cons (k_fld K rfl (pv 4) rfl) pa_nil))) pa_nil)))
      (pss_cons (ps_set (i := 7) sc_numbered.nd rfl (Or.inl rfl) (pe_lst pa_nil))
      (pss_cons (ps_for PassesOwn.leaving rfl (pi_range3 (by rfl) T.f_range (pa_cons (pe_op op_sub (pv 5) pe_int) (pa_cons (pe_un un_neg pe_int) (pa_cons (pe_un un_neg pe_int) pa_nil)))) (pg_name (i := 8) sc_numbered.nd rfl (Or.inl rfl))
      (pss_one (ps_for PassesOwn.leaving rfl (k_piL K rfl (pe_meth (pv 4) T.c_Choices T.m_Choices_lots (ok_Choices_lots T).cold (hr.mono (by decide)) (b_Choices_lots T) .nil pass0 (pa_cons (pv 6) pa_nil))) (pg_name (i := 9) sc_numbered.nd rfl (Or.inl rfl))
      (pss_one (ps_if (pt_cmpR op_lt (pe_op op_add (pe_callB (k_len K rfl) rfl T.f_len PySem.boot_len (pa_cons (pv 7) pa_nil)) (pv 8)) (pv 5) (nomark _)) (pss_cons (ps_set (i := 10) sc_numbered.nd rfl (Or.inl rfl) (pe_meth (pv 4) T.c_Choices T.m_Choices_ways (ok_Choices_ways T) (hr.mono (by decide)) (b_Choices_ways T) .nil pass0 (pa_cons (pe_meth (pv 4) T.c_Choices T.m_Choices_behind (ok_Choices_behind T).cold (hr.mono (by decide)) (b_Choices_behind T) .nil pass0 (pa_cons (pv 6) (pa_cons (pv 9) pa_nil))) (pa_cons (pv 8) pa_nil))))
      (pss_one (ps_if (pt_cmpR op_lt (pv 2) (pv 10) (nomark _)) (pss_cons (ps_expr (pe_bm PySem.F.plainAttrs_list PySem.F.slot_list_append PySem.F.type_list_append mt_append (pv 7) (pa_cons (pe_lc (own := [("at", 11)]) rfl sc_numbered.nd (k_piL K rfl (pv 9)) (blkOk_by (own := [("at", 11)]) (N := ["standing", "wished", "number", "sap", "choices", "seasons", "done", "found", "left", "lot", "many", "at"]) (sc := (defScope s_numbered)) (by decide +kernel)) (fun _ _ _ _ _ => (pg_name (i := 11) sc_numbered.nd rfl (Or.inl rfl))) (fun _ _ _ _ _ => pts_nil) (fun _ _ _ _ _ => (pe_ix (k_ixL K rfl) (k_fld K rfl (pv 4) rfl) (pv 11) (fun _ _ => rfl)))) pa_nil)))
      (pss_one (ps_set (i := 6) sc_numbered.nd rfl (Or.inl rfl) (pe_meth (pv 4) T.c_Choices T.m_Choices_behind (ok_Choices_behind T).cold (hr.mono (by decide)) (b_Choices_behind T) .nil pass0 (pa_cons (pv 6) (pa_cons (pv 9) pa_nil)))))) (pss_one (ps_aug (i := 2) sc_numbered.nd rfl (Or.inl rfl) (pv 10) ip_sub))))) pss_nil)))))
      (pss_one (ps_ret (pe_make T.k_Plan (ok_Plan_init T) (hr.mono (by decide)) rfl T.g_Plan (b_Plan_init T) .nil pass0 (pa_cons (pv 7) pa_nil))))))))), ?_⟩
    refine ⟨_, rfl, _, rfl, _, rfl, S, v1, v2, st, wi, k, rfl, hv1, hv2, ow, tk, hk1, hk2, fun u c kn H1 sm1 hu1 hc ow1 nk knw => ?_⟩
    have qok' := qok
    have qbad' := qbad
    unfold plansT at qok' qbad'
    have hfew' := hfew
    generalize hmi : lack st wi = mi at hc nS qok' qbad'
    have few : mi.length ≤ 10 := by rw [← hmi]; exact tk.few
    generalize hT : fewT st wi k = T0 at hu1 hfew' qok' qbad'
    refine ⟨u, _, rfl, .of hu1, rfl, _, _, rfl, _, _, rfl, rfl, ?_⟩
    have bad : ∀ H', Same H H' → ¬ (0 ≤ num ∧ num < ((plans parS k T0 st mi).length : Nat)) → ∀ a, H' a = none → spBadInit (K := K) (.ref a :: ([V.str "no plan has it"] ++ [])) (upd H' a (exo a (He.ga K "BadNumber") none))
        (fun v H2 => v = .non ∧ ∃ (d : Addr) (fs : List (Str × V)), H2 a = some (exo a (He.ga K "BadNumber") (some d)) ∧ H2 d = some (exd d fs) ∧ H' d = none ∧ E (.ref (He.ga K "BadNumber")) (some d) (upd (del H2 a) d (.xd fs))) (fun _ _ _ => False) := fun H' sm n =>
      bad_mk Z fun d H2 sm2 => qbad' n _ H2 (sm.trans sm2)
    refine ⟨_, rfl, _, _, rfl, rfl, _, rfl, ite2 (fun e0 => ?_) fun e0 => ?_⟩
    · have e0 := of_decide_eq_true e0
      refine ⟨_, rfl, _, rfl, kn :: S, c, st, mi, k, kn, T0, rfl, hfew', hc, List.mem_cons_self, ow1, few, hk1, hk2, nS, knw _ _ _, fun H2 fz2 ow2 kn2 => ?_⟩
      have sm2 := fz_same nk sm1 fz2
      have wl : wy st mi k T0 (List.replicate mi.length false) = (plans parS k T0 st mi).length := by rw [← plansL_len, plansL_all]
      rw [wl]
      refine ⟨_, _, rfl, rfl, _, rfl, ite2 (fun e1 => ?_) fun e1 => ?_⟩
      · have e2 : ¬ num < ((plans parS k T0 st mi).length : Nat) := fun z => by rw [decide_eq_true z] at e1; cases e1
        exact ⟨(show 1 ≤ 1000 by decide), bad H2 sm2 fun z => e2 z.2⟩
      · have e2 : num < ((plans parS k T0 st mi).length : Nat) := by
          by_cases z : num < ((plans parS k T0 st mi).length : Nat)
          · exact z
          · exact absurd (by rw [decide_eq_false z]; rfl) e1
        have hc2 := hc.fz (fz2.more fun b hb => by rw [List.mem_singleton.mp hb]; exact List.mem_cons_self)
        refine false_tup T rfl hc2 few fun t H3 sm3 ht => ?_
        refine ⟨Nat.zero_le _, fun f hf => ?_⟩
        have sm03 := sm2.trans sm3
        have hc3 := hc2.fz (.of sm3)
        have ow3 := ow2.same sm3
        have kn3 := kn2.same sm3
        have hff : H f = none := by
          cases z : H f with
          | none => rfl
          | some o => rw [sm03 _ _ z] at hf; cases hf
        have s4 := same_up (o := .lst []) hf
        have sm04 := sm03.trans s4
        have hc4 : ChAt K (f :: kn :: S) (upd H3 f (.lst [])) c mi k kn := hc3.own List.mem_cons_self hf fun b o n e => s4 _ _ e
        have ow4 : Own (f :: kn :: S) (upd H3 f (.lst [])) := own_in ow3 hf
        have kn4 := kn3.same s4
        have ht4 := s4 _ _ ht
        have hf4 : upd H3 f (.lst []) f = some (.lst []) := upd_same
        generalize upd H3 f (.lst []) = H4 at s4 sm04 hc4 ow4 kn4 ht4 hf4
        obtain ⟨x, rfl⟩ : ∃ x : Nat, num = (x : Int) := ⟨num.toNat, by omega⟩
        rw [show ((x : Nat) : Int).toNat = x from rfl] at qok'
        have hx : x < (plans parS k T0 st mi).length := by omega
        obtain ⟨target, htar⟩ : ∃ target, (plans parS k T0 st mi)[x]? = some target := ⟨_, List.getElem?_eq_getElem hx⟩
        have knf : kn ≠ f := fun z => ow3 kn List.mem_cons_self (by rw [z]; exact hf)
        refine ⟨_, rfl, _, _, rfl, rfl, _, rfl, _, rfl, (T0 : Int) - 1, -1, -1, T0, rfl, ?_, ?_⟩
        · have := RgC.neg (i := (T0 : Int) - 1) (j := -1) (by omega) (by omega) (by omega) (by omega)
          rw [show (((T0 : Int) - 1) - (-1)).toNat = T0 by omega] at this
          exact this
        refine for_it walk_rangeC (fun i σ H' => (∃ (y : Nat) (td : Addr) (l : List Bool) (a8 a9 a10 a11 : Option V), σ = [some v1, some v2, some (.int (y : Nat)), some (.int k), some (.ref c), some (.int (T0 : Nat)), some (.ref td), some (.ref f), a8, a9, a10, a11] ∧ H' td = some (.tup (l.map .bl)) ∧ l.length = mi.length ∧
            ∃ vs found rest, H' f = some (.lst vs) ∧ Ats (Hd (f :: kn :: S) H') eSpots vs found ∧ found.length = i ∧ (plansL st mi k (T0 - i) l)[y]? = some rest ∧ target = found ++ rest) ∧
            Same H H' ∧ Own (f :: kn :: S) H' ∧ ChAt K (f :: kn :: S) H' c mi k kn ∧ Kn P w H' kn (fW st mi k) mi.length 30)
          ⟨⟨x, t, _, _, _, _, _, rfl, ht4, List.length_replicate .., [], [], target, hf4, .nil, rfl, by rw [plansL_all]; exact htar, rfl⟩, sm04, ow4, hc4, kn4⟩ (fun _ _ _ _ _ => trivial) (fun i v σ H5 H6 hi hP hy => ?_) (fun σ H5 hP => ?_)
        · obtain ⟨rfl, hy2⟩ := hy
          obtain ⟨⟨y, td, l, a8, a9, a10, a11, rfl, htd, hl, vs, found, rest, hf5, ats, hlen, hrest, htgt⟩, sm5, ow5, hc5, kn5⟩ := hP
          obtain ⟨m, hm⟩ : ∃ m, T0 - i = m + 1 := ⟨T0 - i - 1, by omega⟩
          rw [hm] at hrest
          obtain rfl : v = V.int ((m : Nat) : Int) := hy2.trans (show V.int ((T0 : Int) - 1 + ((i : Nat) : Int) * -1) = _ from congrArg V.int (by omega))
          have nd : ¬ l.all id = true := fun z => by
            rw [plansL_done hl z] at hrest
            simp at hrest
          rw [plansL_succ nS hl nd] at hrest
          obtain ⟨hcS5, dx, vm, pb, hcc5, hpb5, avm5, hpl5⟩ := id hc5
          refine ⟨_, rfl, c, dx, _, rfl, hcc5, rfl, _, rfl, f :: kn :: S, c, td, mi, k, kn, l, rfl, hc5, ow5, .of htd, hl, few, fun u7 H7 sm7 au7 => ?_⟩
          obtain ⟨pL, xL, rfl, hpL, hxL⟩ := id au7.list
          have hlotlt : ∀ lot ∈ lots k (rdy mi l), ∀ a ∈ lot, a < mi.length := fun lot h => lot_lt k h
          have hlotlen : ∀ lot ∈ lots k (rdy mi l), lot.length ≤ 10 := fun lot h => Nat.le_trans (((mem_lots (pick_up _ _).nodup).mp h).1.length_le) (Nat.le_trans (rdy_len mi l) few)
          generalize lots k (rdy mi l) = LT at hrest au7 hxL hlotlt hlotlen
          refine ⟨pL, rfl, ⟨_, .of (Hd_some hpL).2⟩, ?_⟩
          refine forL (A := eList eNat) (S := f :: kn :: S) (l := LT) hpL hxL (fun j σ H' => (∃ (y : Nat) (td : Addr) (l' : List Bool) (a9 a10 a11 : Option V), σ = [some v1, some v2, some (.int (y : Nat)), some (.int k), some (.ref c), some (.int (T0 : Nat)), some (.ref td), some (.ref f), some (.int (m : Nat)), a9, a10, a11] ∧ H' td = some (.tup (l'.map .bl)) ∧ l'.length = mi.length ∧
              ∃ vs found', H' f = some (.lst vs) ∧ Ats (Hd (f :: kn :: S) H') eSpots vs found' ∧
                ((l' = l ∧ found' = found ∧ ((LT.drop j).flatMap (lotF st mi k m l))[y]? = some rest) ∨ (found'.length = i + 1 ∧ ∃ r', (plansL st mi k m l')[y]? = some r' ∧ target = found' ++ r'))) ∧
              Same H H' ∧ Fz (f :: kn :: S) H7 H' ∧ Own (f :: kn :: S) H' ∧ ChAt K (f :: kn :: S) H' c mi k kn ∧ Kn P w H' kn (fW st mi k) mi.length 30)
            ⟨⟨y, td, l, _, _, _, rfl, sm7 _ _ htd, hl, vs, found, sm7 _ _ hf5, ats.up sm7, .inl ⟨rfl, rfl, by rw [List.drop_zero]; exact hrest⟩⟩, sm5.trans sm7, .refl, ow5.same sm7, hc5.fz (.of sm7), kn5.same sm7⟩ (fun j σ H' h => h.2.2.1) (fun j lot v σ H8 hj hP av => ?_) (fun σ H8 hP => ?_)
          · obtain ⟨⟨y', td', l', a9', a10', a11', rfl, htd', hl', vs', found', hf8, ats8, alt⟩, sm8, fz8, ow8, hc8, kn8⟩ := hP
            obtain ⟨hcS8, dx8, vm8, pb8, hcc8, hpb8, avm8, hpl8⟩ := id hc8
            have hvl := ats8.len
            refine ⟨_, rfl, f, vs', rfl, .inl (.of hf8), _, rfl, _, _, rfl, rfl, _, rfl, _, _, rfl, rfl, _, rfl, ite2 (fun e => ?_) fun e => ?_⟩
            · have e := of_decide_eq_true e
              rcases alt with ⟨rfl, rfl, hA⟩ | ⟨hB, _⟩
              · refine ⟨_, rfl, c, dx8, _, rfl, hcc8, rfl, _, rfl, c, dx8, _, rfl, hcc8, rfl, _, rfl, _, rfl, f :: kn :: S, c, td', v, l', lot, rfl, ow8, .of htd', by omega, av, fun ub H9 sm9 hub => ?_⟩
                have hpl1 : (plusL l' lot).length = mi.length := by rw [plusL_len]; exact hl'
                refine ⟨_, rfl, f :: kn :: S, c, ub, st, mi, k, kn, plusL l' lot, m, 30, rfl, by omega, hc8.fz (.of sm9), List.mem_cons_of_mem _ List.mem_cons_self, ow8.same sm9, hub, hpl1, few, hk1, hk2, nS, kn8.same sm9, by omega, pow_small few, fun H10 fz10 ow10 kn10 => ?_⟩
                have sub : ∀ b ∈ [kn], b ∈ f :: kn :: S := fun b hb => by rw [List.mem_singleton.mp hb]; exact List.mem_cons_of_mem _ List.mem_cons_self
                have fz810 : Fz (f :: kn :: S) H8 H10 := (Fz.of sm9).trans (fz10.more sub)
                have sm10 := fz_same nk (sm8.trans sm9) fz10
                have hc10 := hc8.fz fz810
                have av10 := av.same fz810.hd
                have nkf : f ∉ [kn] := fun z => knf (List.mem_singleton.mp z).symm
                have nktd : td' ∉ [kn] := fun z => by
                  obtain ⟨⟨ys, y1, _⟩, _⟩ := kn8
                  rw [← List.mem_singleton.mp z, htd'] at y1; cases y1
                have hf10 := fz10 _ _ nkf (sm9 _ _ hf8)
                have htd10 := fz10 _ _ nktd (sm9 _ _ htd')
                have ats10 := ats8.same fz810.hd
                obtain ⟨hcS10, dx10, vm10, pb10, hcc10, hpb10, avm10, hpl10⟩ := id hc10
                refine ⟨_, rfl, _, rfl, _, _, rfl, rfl, _, rfl, ite2 (fun e3 => ?_) fun e3 => ?_⟩
                · have e3 := of_decide_eq_true e3
                  rcases lot_step hj hA with ⟨hlt, r', hr', htr⟩ | ⟨hge, _⟩
                  · obtain ⟨pv, xv, rfl, hpv, hxv⟩ := id av10.list
                    obtain ⟨pm, xm, rfl, hpm, hxm⟩ := id avm10.list
                    have lotin := List.mem_of_getElem? hj
                    refine ⟨_, rfl, .inl ⟨rfl, vs', .of hf10⟩, _, rfl, pv, rfl, ⟨_, .of (Hd_some hpv).2⟩, fun D hD => ?_⟩
                    have lotlen := hlotlen lot lotin
                    refine lc_at (A := eNat) (B := eSpot) (S := f :: kn :: S) (fun _ => true) (fS mi) ow10 hD hpv hxv (by rw [sizeLine_eq]; omega) (fun a ha w2 H11 sm11 wD aa NF NT k1 k2 => ?_) (fun H11 sm11 a11 => ?_)
                    · obtain rfl := aa.nat
                      have hlt2 := hlotlt lot lotin a ha
                      have hma : mi[a]? = some (fS mi a) := by
                        rw [List.getElem?_eq_getElem hlt2]
                        unfold fS
                        rw [List.getD_eq_getElem?_getD, List.getElem?_eq_getElem hlt2]; rfl
                      obtain ⟨w3, hw3, aw3⟩ := hxm.to hma
                      refine ⟨rfl, _, rfl, c, _, dx10, _, _, rfl, sm11 _ _ hcc10, T.c_Choices, T.n_Choices_missing, rfl, _, rfl, pm, xm, a, w3, rfl, rfl, .of (sm11 _ _ (Hd_some hpm).2), atI_nat hw3, k2 rfl _ _ (.refl _) (aw3.into sm11 hD)⟩
                    · rw [ftrue] at a11
                      have hvl10 := ats10.len
                      have hf11 := sm11 _ _ hf10
                      refine ⟨f, vs', .ref D, rfl, rfl, hf11, by rw [sizeLine_eq]; omega, ?_⟩
                      have fz11 : Fz (f :: kn :: S) H10 (upd H11 f (.lst (vs' ++ [.ref D]))) := (Fz.of sm11).trans (fz_upd List.mem_cons_self)
                      have ats12 : Ats (Hd (f :: kn :: S) (upd H11 f (.lst (vs' ++ [.ref D])))) eSpots (vs' ++ [.ref D]) (found' ++ [lot.map (fS mi)]) := by
                        rw [hd_upd List.mem_cons_self]
                        exact (ats10.up sm11).app (Ats.one a11)
                      have hf12 : upd H11 f (.lst (vs' ++ [.ref D])) f = some (.lst (vs' ++ [.ref D])) := upd_same
                      have ow12 : Own (f :: kn :: S) (upd H11 f (.lst (vs' ++ [.ref D]))) := (ow10.same sm11).kp .upd
                      have tdf : td' ≠ f := fun z => by rw [z, hf10] at htd10; cases htd10
                      have htd12 : upd H11 f (.lst (vs' ++ [.ref D])) td' = some (.tup (l'.map .bl)) := by rw [upd_ne tdf]; exact sm11 _ _ htd10
                      have sm12 : Same H (upd H11 f (.lst (vs' ++ [.ref D]))) := fun b o e => by
                        rw [upd_ne (fun z => by rw [z, hff] at e; cases e)]
                        exact sm11 _ _ (sm10 _ _ e)
                      have kn12 : Kn P w (upd H11 f (.lst (vs' ++ [.ref D]))) kn (fW st mi k) mi.length 30 := (kn10.same sm11).lst hf11
                      generalize upd H11 f (.lst (vs' ++ [.ref D])) = H12 at fz11 ats12 hf12 ow12 htd12 sm12 kn12
                      have hc12 := hc10.fz fz11
                      obtain ⟨hcS12, dx12, vm12, pb12, hcc12, _, _, _⟩ := id hc12
                      refine ⟨_, rfl, c, dx12, _, rfl, hcc12, rfl, _, rfl, _, rfl, f :: kn :: S, c, td', .ref pv, l', lot, rfl, ow12, .of htd12, by omega, av10.same fz11.hd, fun ub2 H13 sm13 hub13 => ?_⟩
                      refine ⟨⟨y', ub2, plusL l' lot, _, _, _, rfl, hub13, hpl1, _, _, sm13 _ _ hf12, ats12.up sm13, .inr ⟨by rw [List.length_append, hlen]; rfl, r', hr', ?_⟩⟩, sm12.trans sm13, ((fz8.trans fz810).trans fz11).trans (.of sm13), ow12.same sm13, hc12.fz (.of sm13), kn12.same sm13⟩
                      rw [htgt, htr, List.append_assoc]
                      rfl
                  · omega
                · rcases lot_step hj hA with ⟨hlt, _⟩ | ⟨hge, hr'⟩
                  · exact absurd (decide_eq_true (by omega)) e3
                  · refine ⟨_, rfl, _, rfl, _, _, rfl, rfl, ?_⟩
                    refine ⟨⟨y' - wy st mi k m (plusL l' lot), td', l', some v, some (.int (wy st mi k m (plusL l' lot) : Nat)), a11', ?_, htd10, hl', vs', found', hf10, ats10, .inl ⟨rfl, rfl, hr'⟩⟩, sm10, fz8.trans fz810, ow10, hc10, kn10⟩
                    rw [show ((y' - wy st mi k m (plusL l' lot) : Nat) : Int) = ((y' : Nat) : Int) - ((wy st mi k m (plusL l' lot) : Nat) : Int) by omega]
                    rfl
              · omega
            · rcases alt with ⟨rfl, rfl, hA⟩ | ⟨hB, hB2⟩
              · exact absurd (decide_eq_true (by omega)) e
              · exact ⟨⟨y', td', l', _, _, _, rfl, htd', hl', vs', found', hf8, ats8, .inr ⟨hB, hB2⟩⟩, sm8, fz8, ow8, hc8, kn8⟩
          · obtain ⟨⟨y', td', l', a9', a10', a11', rfl, htd', hl', vs', found', hf8, ats8, alt⟩, sm8, fz8, ow8, hc8, kn8⟩ := hP
            rcases alt with ⟨_, _, hA⟩ | ⟨hB, r', hr', htg'⟩
            · rw [List.drop_length] at hA
              simp at hA
            · refine ⟨⟨y', td', l', _, _, _, _, rfl, htd', hl', vs', found', r', hf8, ats8, hB, ?_, htg'⟩, sm8, ow8, hc8, kn8⟩
              rw [show T0 - (i + 1) = m by omega]
              exact hr'
        · obtain ⟨⟨y, td, l, a8, a9, a10, a11, rfl, htd, hl, vs, found, rest, hf5, ats, hlen, hrest, htgt⟩, sm5, ow5, hc5, kn5⟩ := hP
          rw [Nat.sub_self] at hrest
          have er := plansL_zero hrest
          rw [er, List.append_nil] at htgt
          subst htgt
          have nfS : f ∉ kn :: S := fun z => (List.mem_cons.mp z).elim (fun z => knf z.symm) fun z => ow f z hff
          have atf : At (Hd (kn :: S) H5) ePl (.ref f) target := .of_list (by rw [Hd_at nfS]; exact hf5) (ats.same (hd_out fun b hb => List.mem_cons_of_mem _ hb))
          refine ⟨_, rfl, mk_plan ow5.tail atf (by omega) (fun p H6 sm6 hp => ?_)⟩
          exact qok' p H6 target (by omega) htar (sm5.trans sm6) hp.out
    · exact ⟨_, rfl, iteT ⟨(show 1 ≤ 1000 by decide), bad H1 sm1 fun z => e0 (decide_eq_true z.1)⟩⟩
end
end Pw
end
section
set_option linter.all false
set_option maxRecDepth 100000
set_option maxHeartbeats 2000000
/-! Numbers 3: a plan's number. -/
namespace Pw
/-- the lots ahead of mine -/
def aheadW (st mi : List Spot) (k m : Nat) (l : List Bool) (LT : List (List Nat)) (mine : List Nat) : Nat := ((LT.filter fun b => decide (b < mine)).map fun b => wy st mi k m (plusL l b)).sum
theorem lotF_len (st mi : List Spot) (k m : Nat) (l : List Bool) (lot : List Nat) : (lotF st mi k m l lot).length = wy st mi k m (plusL l lot) := by
  unfold lotF
  rw [List.length_map, plansL_len]
theorem aheadW_eq (st mi : List Spot) (k m : Nat) (l : List Bool) (LT : List (List Nat)) (mine : List Nat) : aheadW st mi k m l LT mine = ahead (lotF st mi k m l) LT mine := by
  unfold aheadW ahead
  congr 1
  exact List.map_congr_left fun b _ => (lotF_len st mi k m l b).symm
theorem fS_lt {st mi : List Spot} (N : NumS st mi) {a : Nat} (h : a < mi.length) : mi[a]? = some (fS mi a) := by
  rw [List.getElem?_eq_getElem h]
  unfold fS
  rw [List.getD_eq_getElem?_getD, List.getElem?_eq_getElem h]; rfl
theorem idx_fS {st mi : List Spot} (N : NumS st mi) {a : Nat} (h : a < mi.length) : idxS (fS mi a) mi = a := by
  have hm : fS mi a ∈ mi := List.mem_of_getElem? (fS_lt N h)
  have h1 := idxS_lt hm
  have h2 := idxS_get hm
  rw [fS_lt N h1] at h2
  injection h2 with h2
  exact N.inj h1 h h2
theorem mine_eq {st mi : List Spot} (N : NumS st mi) {lot : List Nat} (h : ∀ a ∈ lot, a < mi.length) : (lot.map (fS mi)).map (fun s => idxS s mi) = lot := by
  rw [List.map_map]
  conv => rhs; rw [← List.map_id lot]
  exact List.map_congr_left fun a ha => idx_fS N (h a ha)
/-- one season of a plan is looked at -/
theorem rank_step {st mi : List Spot} {k m : Nat} {l : List Bool} {season : List Spot} {r : List (List Spot)} (N : NumS st mi) (hl : l.length = mi.length) (h : season :: r ∈ plansL st mi k (m + 1) l) :
    let mine := season.map fun s => idxS s mi
    (∀ s ∈ season, s ∈ mi) ∧ r ∈ plansL st mi k m (plusL l mine) ∧ ∀ j : Nat, (plansL st mi k m (plusL l mine))[j]? = some r → (plansL st mi k (m + 1) l)[aheadW st mi k m l (lots k (rdy mi l)) mine + j]? = some (season :: r) := by
  have nd : ¬ l.all id = true := fun z => by
    rw [plansL_done hl z] at h
    simp at h
  rw [plansL_succ N hl nd] at h ⊢
  obtain ⟨lot, hlot, h2⟩ := List.mem_flatMap.mp h
  unfold lotF at h2
  obtain ⟨r', hr', e⟩ := List.mem_map.mp h2
  injection e with e1 e2
  subst e2
  have hlt : ∀ a ∈ lot, a < mi.length := lot_lt k hlot
  have em : (season.map fun s => idxS s mi) = lot := by rw [← e1]; exact mine_eq N hlt
  intro mine
  have em2 : mine = lot := em
  rw [em2]
  refine ⟨fun s hs => ?_, hr', fun j hj => ?_⟩
  · rw [← e1] at hs
    obtain ⟨a, ha, rfl⟩ := List.mem_map.mp hs
    exact List.mem_of_getElem? (fS_lt N (hlt a ha))
  · have jl : j < (lotF st mi k m l lot).length := by
      rw [lotF_len, ← plansL_len]
      exact (List.getElem?_eq_some_iff.mp hj).1
    have lu : Up (lots k (rdy mi l)) := lots_up (by rw [rdy_eq]; exact (pick_up _ _).nodup)
    rw [aheadW_eq, ahead_get (lotF st mi k m l) j lu hlot jl]
    unfold lotF
    rw [List.getElem?_map, hj, ← e1]
    rfl
end Pw
end
section
set_option linter.all false
set_option maxRecDepth 100000
set_option maxHeartbeats 2000000
/-! Defs 16: rank_of. -/
namespace Pw
open PySem PySem.Spec PyProof.Rows L2
section
variable {X : Cx} (K : Fg) (eK : X.K = K)
include eK
theorem k_bm {o e : Expr} {es : List Expr} {to : TE} {t : TA} {name : Str} {apos cpos : Pos} {T id : String} {r : V → List V → Hp → VK → Prop} (pa : PlainAttrs T) (slot : Slot T name id) (hty : typeOf (.builtin id) = pure (.type "method_descriptor")) (hm : MtR X id r) (ho : PE X o to) (ha : PA X (e :: es) t)
    (hbase : attributeBase o name X.env (eval o X.env) = eval o X.env := by rfl)
    (hfew : ((backTo cpos (starEach (e :: es) X.env)).all (fun x => !x.1) && (backToKw cpos (keywordEach [] X.env)).all (fun x => x.1.isSome)
      && decide ((e :: es).length + ([] : List Keyword).length + (if ([] : List Keyword).isEmpty then 0 else 1) < 30)) = true := by rfl)
    (hline : (apos.endLine == cpos.line) = true := by rfl) (hs : starEach (e :: es) X.env = (false, eval e X.env) :: starEach es X.env := by rfl) (hplain : (backTo cpos (starEach es X.env)).any (·.1) = false := by rfl) :
    PE X (.Call (.Attribute o name apos) (e :: es) [] cpos) (tBM K T r to t) := eK ▸ pe_bm pa slot hty hm ho ha hbase hfew hline hs hplain
end
section
variable {P : Program} {w : World} {K : PySem.W.Frag} {mg : Str → Option Value} {base : Heap}
theorem PlanAt.into {S : List Addr} {kn : Addr} {H H' : Hp} {p : Addr} {ss : List (List Spot)} (h : PlanAt K S H p ss) (e : Same H H') (n : H kn = none) : PlanAt K (kn :: S) H' p ss := by
  obtain ⟨h0, dx, u, h1, h2⟩ := h
  exact ⟨fun z => (List.mem_cons.mp z).elim (fun z => by rw [z, n] at h1; cases h1) h0, dx, u, e _ _ h1, h2.into e n⟩
theorem sub1 {kn : Addr} {S : List Addr} : ∀ b ∈ [kn], b ∈ kn :: S := fun b hb => by rw [List.mem_singleton.mp hb]; exact List.mem_cons_self
theorem aheadW_snoc (st mi : List Spot) (k m : Nat) (l : List Bool) (LT : List (List Nat)) (b mine : List Nat) : aheadW st mi k m l (LT ++ [b]) mine = aheadW st mi k m l LT mine + if b < mine then wy st mi k m (plusL l b) else 0 := by
  unfold aheadW
  rw [List.filter_append, List.map_append, List.sum_append]
  by_cases h : b < mine
  · simp [h]
  · simp [h]
abbrev s_rank_of : Stmt := top 43
theorem sc_rank_of : FnScope ["standing", "wished", "plan", "sap", "choices", "seasons", "done", "number", "at", "season", "mine", "lot", "spot"] ["standing", "wished", "plan", "sap"] (defScope s_rank_of) := ⟨rfl, rfl, rfl, by decide +kernel, rfl, by decide +kernel, by decide +kernel⟩
def spRankOf : Sp := fun vs H Q _ => ∃ (S : List Addr) (v1 v2 : V) (p : Addr) (st wi : List Spot) (ss : List (List Spot)) (k : Nat), vs = [v1, v2, .ref p, .int k] ∧ At (Hd S H) eSpots v1 st ∧ At (Hd S H) eSpots v2 wi ∧ PlanAt K S H p ss ∧ Own S H ∧ TaskOk st wi ∧ NumS st (lack st wi) ∧ fewT st wi k < 30 ∧ 1 ≤ k ∧ k ≤ 300 ∧ ss.length ≤ 1000 ∧ (∀ x ∈ ss, x.length ≤ 1000) ∧
  (ss ∈ plansT st wi k ↔ ss.length = fewT st wi k ∧ PF st (lack st wi) k ss) ∧
  (∀ H' n, Same H H' → (plansT st wi k)[n]? = some ss → Q (.int (n : Nat)) H') ∧ (∀ H', Same H H' → ss ∉ plansT st wi k → Q .non H')
theorem ok_rank_of (T : Tx K mg) : FnOk P w K mg base CX0 35 (He.ga K "rank_of") T.fd_rank_of ["standing", "wished", "plan", "sap"] (spRankOf (K := K)) := by
  refine T.F_rank_of.ok sc_rank_of (fun vs H Q E h => ?_) (fun cdv A outer s H vs Q E hr h => ?_)
  · obtain ⟨S, v1, v2, p, st, wi, ss, k, rfl, _⟩ := h; rfl
  · obtain ⟨S, v1, v2, p, st, wi, ss, k, rfl, hv1, hv2, hpl, ow, tk, nS, hfew, hk1, hk2, hl1, hl2, hmem, qok, qno⟩ := h
    have hu65 := hu65_of hr
    have hu := hu1_of hr
    refine ⟨_, (pss_cons (ps_asg (pe_call (ok_choices_for T) (hr.mono (by decide)) rfl T.g_choices_for T.F_choices_for.kp (b_choices_for T) .nil pass0 (pa_cons (pv 0) (pa_cons (pv 1) (pa_cons (pv 3) pa_nil)))) (k_pgT K rfl (n := 2) rfl (pgs_cons (pg_name (i := 4) sc_rank_of.nd rfl (Or.inr rfl)) (pgs_cons (pg_name (i := 5) sc_rank_of.nd rfl (Or.inl rfl)) pgs_nil))))
      (pss_cons (ps_if (PW.pt (pw_or (pt_cmpR op_isN (pv 5) pe_non (nomark _)) (pw_or (pt_cmpR op_ne (pe_callB (call_lenOwn T.m_Plan_len (ok_Plan_len T) (hr.mono (by decide)) (b_Plan_len T) pass0) rfl T.f_len PySem.boot_len (pa_cons (pv 2) pa_nil)) (pv 5) (nomark _)) (pw_or1 (pt_cmpR op_notN (pe_call (ok_fault_of T) (hr.mono (by decide)) rfl T.g_fault_of T.F_fault_of.kp (b_fault_of T) .nil pass0 (pa_cons (pv 0) (pa_cons (pv 1) (pa_cons (pv 2) (pa_cons (pv 3) pa_nil))))) pe_non (nomark _)))))) (pss_one (ps_ret pe_non)) pss_nil)
      (pss_cons (ps_set (i := 6) sc_rank_of.nd rfl (Or.inl rfl) (pe_callTy (k_tupOf K rfl) rfl T.f_tuple (by decide +kernel) (pa_cons (pe_op op_rep (pe_lst (pa_cons pe_bl pa_nil)) (pe_callB (k_len K rfl) rfl T.f_len PySem.boot_len (pa_cons (k_fld K rfl (pv 4) rfl) pa_nil))) pa_nil)))
      (pss_cons (ps_set (i := 7) sc_rank_of.nd rfl (Or.inl rfl) pe_int)
      (pss_cons (ps_for PassesOwn.leaving rfl (pi_enum (by rfl) T.f_enumerate (pa_cons (pe_meth0 (pv 2) T.c_Plan T.m_Plan_seasons (ok_Plan_seasons T) (hr.mono (by decide)) (b_Plan_seasons T) .nil pass0) pa_nil)) (k_pgT K rfl (n := 2) rfl (pgs_cons (pg_name (i := 8) sc_rank_of.nd rfl (Or.inl rfl)) (pgs_cons (pg_name (i := 9) sc_rank_of.nd rfl (Or.inl rfl)) pgs_nil)))
      (pss_cons (ps_setLc (i := 10) (own := [("spot", 12)]) rfl sc_rank_of.nd rfl rfl (sw_true rfl rfl rfl (by decide +kernel)) (k_piL K rfl (pv 9)) (blkOk_by (own := [("spot", 12)]) (N := ["standing", "wished", "plan", "sap", "choices", "seasons", "done", "number", "at", "season", "mine", "lot", "spot"]) (sc := (defScope s_rank_of)) (by decide +kernel)) (fun _ _ _ _ _ => (pg_name (i := 12) sc_rank_of.nd rfl (Or.inl rfl))) (fun _ _ _ _ _ => pts_nil) (fun _ _ _ _ _ => (k_bm K rfl PySem.F.plainAttrs_list PySem.F.slot_list_index PySem.F.type_list_index (k_index K rfl hu65) (k_fld K rfl (pv 4) rfl) (pa_cons (pv 12) pa_nil))))
      (pss_cons (ps_for PassesOwn.leaving rfl (k_piL K rfl (pe_meth (pv 4) T.c_Choices T.m_Choices_lots (ok_Choices_lots T).cold (hr.mono (by decide)) (b_Choices_lots T) .nil pass0 (pa_cons (pv 6) pa_nil))) (pg_name (i := 11) sc_rank_of.nd rfl (Or.inl rfl))
      (pss_one (ps_if (pt_cmpR (op_ltA (A := (eList eNat)) (fun _ h => nomatch h) hu65) (pv 11) (pv 10) (nomark _)) (pss_one (ps_aug (i := 7) sc_rank_of.nd rfl (Or.inl rfl) (pe_meth (pv 4) T.c_Choices T.m_Choices_ways (ok_Choices_ways T) (hr.mono (by decide)) (b_Choices_ways T) .nil pass0 (pa_cons (pe_meth (pv 4) T.c_Choices T.m_Choices_behind (ok_Choices_behind T).cold (hr.mono (by decide)) (b_Choices_behind T) .nil pass0 (pa_cons (pv 6) (pa_cons (pv 11) pa_nil))) (pa_cons (pe_op op_sub (pe_op op_sub (pv 5) pe_int) (pv 8)) pa_nil))) ip_add)) pss_nil)))
      (pss_one (ps_set (i := 6) sc_rank_of.nd rfl (Or.inl rfl) (pe_meth (pv 4) T.c_Choices T.m_Choices_behind (ok_Choices_behind T).cold (hr.mono (by decide)) (b_Choices_behind T) .nil pass0 (pa_cons (pv 6) (pa_cons (pv 10) pa_nil))))))))
      (pss_one (ps_ret (pv 7)))))))), ?_⟩
    refine ⟨_, rfl, _, rfl, _, rfl, S, v1, v2, st, wi, k, rfl, hv1, hv2, ow, tk, hk1, hk2, fun u c kn H1 sm1 hu1 hc ow1 nk knw => ?_⟩
    have few : (lack st wi).length ≤ 10 := tk.few
    have hplans : plansT st wi k = plansL st (lack st wi) k (fewT st wi k) (List.replicate (lack st wi).length false) := (plansL_all st (lack st wi) k _).symm
    generalize hmi : lack st wi = mi at hc nS hmem few hplans
    generalize hT : fewT st wi k = T0 at hu1 hfew hmem hplans
    generalize plansT st wi k = PL at hmem hplans qok qno
    have hpl1 := hpl.same sm1
    obtain ⟨npS, dxp, up, hpp, _⟩ := id hpl1
    refine ⟨u, _, rfl, .of hu1, rfl, _, _, rfl, _, _, rfl, rfl, ?_⟩
    refine ⟨_, rfl, rfl, _, rfl, iteF ?_⟩
    refine ⟨_, rfl, p, dxp, _, rfl, hpp, S, p, ss, rfl, hpl1, ss.length, rfl, by rw [sizeLine_eq]; omega, _, rfl, ?_⟩
    refine ⟨rfl, _, rfl, ite2 (fun e => iteT ?_) fun e => ?_⟩
    · refine qno H1 sm1 fun z => ?_
      have h := (hmem.mp z).1
      rw [h] at e
      simp at e
    · have hlen : ss.length = T0 := by
        by_cases z : ss.length = T0
        · exact z
        · refine absurd ?_ e
          rw [decide_eq_false (fun y => z (by have := V.int.inj y; omega))]
          rfl
      refine ⟨_, rfl, _, rfl, _, rfl, _, rfl, S, v1, v2, p, st, wi, ss, k, rfl, hv1.up sm1, hv2.up sm1, hpl1, ow.same sm1, tk.l1, tk.l2, hl1, hl2, fun vf H2 hvf sm2 => ?_⟩
      rw [hmi] at hvf
      refine ⟨rfl, _, rfl, ?_⟩
      rcases hvf with ⟨rfl, hPF⟩ | ⟨⟨n, rfl⟩, hPF⟩
      · refine iteF ?_
        have hin := hmem.mpr ⟨hlen, hPF⟩
        clear hmem
        have sm02 := sm1.trans sm2
        have hc2 := hc.fz (.of sm2)
        have ow2 := ow1.same sm2
        refine false_tup T rfl hc2 few fun t H3 sm3 ht => ?_
        have sm03 := sm02.trans sm3
        have hc3 := hc2.fz (.of sm3)
        have ow3 := ow2.same sm3
        have kn3 : Kn P w H3 kn (fW st mi k) mi.length 30 := (knw _ _ _).same (sm2.trans sm3)
        have hpl3 := hpl.into sm03 nk
        obtain ⟨_, dxp3, up3, hpp3, _⟩ := id hpl3
        refine ⟨_, rfl, p, dxp3, _, rfl, hpp3, rfl, kn :: S, p, ss, rfl, hpl3, ow3, hl1, fun uu H4 sm4 au => ?_⟩
        have sm04 := sm03.trans sm4
        obtain ⟨pu, xu, rfl, hpu, hxu⟩ := id au.list
        refine ⟨pu, xu, rfl, .of (Hd_some hpu).2, ?_⟩
        refine forE (A := eSpots) (S := kn :: S) (l := ss) hpu hxu (fun i σ H' => (∃ (td : Addr) (l : List Bool) (num : Nat) (a8 a9 a10 a11 a12 : Option V), σ = [some v1, some v2, some (.ref p), some (.int k), some (.ref c), some (.int (T0 : Nat)), some (.ref td), some (.int (num : Nat)), a8, a9, a10, a11, a12] ∧ H' td = some (.tup (l.map .bl)) ∧ l.length = mi.length ∧
            ss.drop i ∈ plansL st mi k (T0 - i) l ∧ ∀ j : Nat, (plansL st mi k (T0 - i) l)[j]? = some (ss.drop i) → PL[num + j]? = some ss) ∧
            Fz [kn] H4 H' ∧ Own (kn :: S) H' ∧ ChAt K (kn :: S) H' c mi k kn ∧ Kn P w H' kn (fW st mi k) mi.length 30)
          ⟨⟨t, _, 0, _, _, _, _, _, rfl, sm4 _ _ ht, List.length_replicate .., by rw [Nat.sub_zero, List.drop_zero, ← hplans]; exact hin, fun j h => by rw [Nat.sub_zero, List.drop_zero, ← hplans] at h; rw [Nat.zero_add]; exact h⟩, .refl, ow3.same sm4, hc3.fz (.of sm4), kn3.same sm4⟩ (fun i σ H' h => h.2.1.more sub1) (fun i season v σ H5 TT hi hP av hT => ?_) (fun σ H5 hP => ?_)
        · obtain ⟨⟨td, l, num, a8, a9, a10, a11, a12, rfl, htd, hl, hrest, hnum⟩, fz5, ow5, hc5, kn5⟩ := hP
          have hi2 := (List.getElem?_eq_some_iff.mp hi).1
          obtain ⟨m, hm⟩ : ∃ m, T0 - i = m + 1 := ⟨T0 - i - 1, by omega⟩
          have hm2 : T0 - (i + 1) = m := by omega
          have hd : ss.drop i = season :: ss.drop (i + 1) := by
            rw [List.drop_eq_getElem_cons hi2, (List.getElem?_eq_some_iff.mp hi).2]
          rw [hm, hd] at hrest hnum
          obtain ⟨r1, r2, r3⟩ := rank_step nS hl hrest
          have seal' : season.length ≤ 1000 := hl2 _ (List.mem_of_getElem? hi)
          have smT := same_up (o := .tup [.int (i : Nat), v]) hT
          have tt6 : SqT K (upd H5 TT (.tup [.int (i : Nat), v])) TT [.int (i : Nat), v] := .of upd_same
          have fz6 := fz5.trans (.of smT)
          have ow6 := ow5.same smT
          have hc6 := hc5.fz (.of smT)
          have kn6 := kn5.same smT
          have av6 := av.up smT
          have htd6 := smT _ _ htd
          generalize upd H5 TT (.tup [.int (i : Nat), v]) = H6 at smT tt6 fz6 ow6 hc6 kn6 av6 htd6
          refine ⟨TT, _, rfl, tt6, rfl, _, _, rfl, _, _, rfl, rfl, ?_⟩
          obtain ⟨hcS6, dx, vm, pb, hcc6, hpb6, avm6, hpl6⟩ := id hc6
          obtain ⟨pv, xv, rfl, hpv, hxv⟩ := id av6.list
          obtain ⟨pm, xm, rfl, hpm, hxm⟩ := id avm6.list
          refine ⟨_, rfl, pv, rfl, ⟨_, .of (Hd_some hpv).2⟩, fun D hD => ?_⟩
          refine lc_at (A := eSpot) (B := eNat) (S := kn :: S) (fun _ => true) (fun s => idxS s mi) ow6 hD hpv hxv (by rw [sizeLine_eq]; omega) (fun x hx v3 H7 sm7 wD ax NF NT k1 k2 => ?_) (fun H7 sm7 a7 => ?_)
          · refine ⟨rfl, _, rfl, c, _, dx, _, _, rfl, sm7 _ _ hcc6, T.c_Choices, T.n_Choices_missing, rfl, .inl ⟨rfl, xm, .of (sm7 _ _ (Hd_some hpm).2)⟩, _, rfl, index_at (Q := fun y H8 => NT H8 y) ax.out (avm6.up sm7) hd_to (r1 x hx) (k2 rfl _ _ (.refl _) .of_nat)⟩
          · rw [ftrue] at a7
            have hc7 := hc6.fz (.of sm7)
            have ow7 := ow6.same sm7
            have kn7 := kn6.same sm7
            have htd7 := sm7 _ _ htd6
            have fz7 := fz6.trans (.of sm7)
            obtain ⟨hcS7, dx7, vm7, pb7, hcc7, hpb7, avm7, hpl7⟩ := id hc7
            generalize hmine : (season.map fun s => idxS s mi) = mine at a7 r2 r3
            refine ⟨_, rfl, c, dx7, _, rfl, hcc7, rfl, _, rfl, kn :: S, c, td, mi, k, kn, l, rfl, hc7, ow7, .of htd7, hl, few, fun u8 H8 sm8 au8 => ?_⟩
            obtain ⟨pL, xL, rfl, hpL, hxL⟩ := id au8.list
            generalize lots k (rdy mi l) = LT at r3 au8 hxL
            refine ⟨pL, rfl, ⟨_, .of (Hd_some hpL).2⟩, ?_⟩
            refine forL (A := eList eNat) (S := kn :: S) (l := LT) hpL hxL (fun j σ H' => (∃ a11 : Option V, σ = [some v1, some v2, some (.ref p), some (.int k), some (.ref c), some (.int (T0 : Nat)), some (.ref td), some (.int ((num + aheadW st mi k m l (LT.take j) mine : Nat) : Int)), some (.int (i : Nat)), some (.ref pv), some (.ref D), a11, a12]) ∧
                Fz [kn] H8 H' ∧ Own (kn :: S) H' ∧ ChAt K (kn :: S) H' c mi k kn ∧ Kn P w H' kn (fW st mi k) mi.length 30)
              ⟨⟨_, rfl⟩, .refl, ow7.same sm8, hc7.fz (.of sm8), kn7.same sm8⟩ (fun j σ H' h => h.2.1.more sub1) (fun j lot v9 σ H9 hj hP av9 => ?_) (fun σ H9 hP => ?_)
            · obtain ⟨⟨a11', rfl⟩, fz9, ow9, hc9, kn9⟩ := hP
              obtain ⟨hcS9, dx9, vm9, pb9, hcc9, hpb9, avm9, hpl9⟩ := id hc9
              have a9 : At (Hd (kn :: S) H9) (eList eNat) (.ref D) mine := (a7.up sm8).same (fz9.more sub1).hd
              have nktd : td ∉ [kn] := fun z => by
                obtain ⟨⟨ys, y1, _⟩, _⟩ := kn7
                rw [← List.mem_singleton.mp z, htd7] at y1; cases y1
              have htd9 := fz9 _ _ nktd (sm8 _ _ htd7)
              refine ⟨_, rfl, _, rfl, kn :: S, lot, mine, av9, a9, _, rfl, ite2 (fun e => ?_) fun e => ?_⟩
              · refine ⟨_, rfl, _, rfl, c, dx9, _, rfl, hcc9, rfl, _, rfl, c, dx9, _, rfl, hcc9, rfl, _, rfl, _, rfl, kn :: S, c, td, v9, l, lot, rfl, ow9, .of htd9, by omega, av9, fun ub HA smA hub => ?_⟩
                have hpl1 : (plusL l lot).length = mi.length := by rw [plusL_len]; exact hl
                refine ⟨_, rfl, _, _, rfl, rfl, _, rfl, _, _, rfl, rfl, kn :: S, c, ub, st, mi, k, kn, plusL l lot, m, 30, ?_, by omega, hc9.fz (.of smA), List.mem_cons_self, ow9.same smA, hub, hpl1, few, hk1, hk2, nS, kn9.same smA, by omega, pow_small few, fun HB fzB owB knB => ?_⟩
                · show [V.ref c, V.ref ub, V.int (((T0 : Nat) : Int) - 1 - ((i : Nat) : Int))] = _
                  rw [show ((T0 : Nat) : Int) - 1 - ((i : Nat) : Int) = ((m : Nat) : Int) by omega]
                · refine ⟨_, _, rfl, rfl, ⟨some v9, ?_⟩, (fz9.trans (.of smA)).trans fzB, owB, (hc9.fz (.of smA)).fz (fzB.more sub1), knB⟩
                  rw [take_step hj, aheadW_snoc, if_pos (of_decide_eq_true e), ← Nat.add_assoc]
                  rfl
              · refine ⟨⟨some v9, ?_⟩, fz9, ow9, hc9, kn9⟩
                rw [take_step hj, aheadW_snoc, if_neg (fun z => e (decide_eq_true z)), Nat.add_zero]
                rfl
            · obtain ⟨⟨a11', rfl⟩, fz9, ow9, hc9, kn9⟩ := hP
              rw [List.take_length]
              obtain ⟨hcS9, dx9, vm9, pb9, hcc9, hpb9, avm9, hpl9⟩ := id hc9
              have a9 : At (Hd (kn :: S) H9) (eList eNat) (.ref D) mine := (a7.up sm8).same (fz9.more sub1).hd
              have nktd : td ∉ [kn] := fun z => by
                obtain ⟨⟨ys, y1, _⟩, _⟩ := kn7
                rw [← List.mem_singleton.mp z, htd7] at y1; cases y1
              have htd9 := fz9 _ _ nktd (sm8 _ _ htd7)
              refine ⟨_, rfl, c, dx9, _, rfl, hcc9, rfl, _, rfl, _, rfl, kn :: S, c, td, .ref D, l, mine, rfl, ow9, .of htd9, by omega, a9, fun ub HA smA hub => ?_⟩
              refine ⟨⟨ub, plusL l mine, num + aheadW st mi k m l LT mine, _, _, _, _, _, rfl, hub, by rw [plusL_len]; exact hl, by rw [hm2]; exact r2, fun j hj => ?_⟩, ((fz7.trans (.of sm8)).trans fz9).trans (.of smA), ow9.same smA, hc9.fz (.of smA), kn9.same smA⟩
              rw [hm2] at hj
              rw [Nat.add_assoc]
              exact hnum _ (r3 j hj)
        · obtain ⟨⟨td, l, num, a8, a9, a10, a11, a12, rfl, htd, hl, hrest, hnum⟩, fz5, ow5, hc5, kn5⟩ := hP
          rw [hlen, Nat.sub_self, ← hlen, List.drop_length] at hrest hnum
          obtain ⟨j, hj⟩ := List.mem_iff_getElem?.mp hrest
          have j0 : j = 0 := by
            unfold plansL Pw.plansI at hj
            rw [plans_zero] at hj
            split at hj
            · cases j with
              | zero => rfl
              | succ j => simp at hj
            · simp at hj
          subst j0
          refine ⟨_, rfl, qok H5 num ?_ (hnum 0 hj)⟩
          exact fz_same nk sm04 fz5
      · exact iteT (qno H2 (sm1.trans sm2) fun z => hPF (hmem.mp z).2)
end
end Pw
end
section
set_option linter.all false
set_option maxRecDepth 100000
set_option maxHeartbeats 2000000
/-! Law 1: the hat. -/
namespace Pw
open PySem PySem.Spec PyProof.Rows L2
section
variable {X : Cx}
theorem get_list : PGet X (rIxL X.K) := by
  intro pins s σ H x y v u Q I rx ry h
  obtain ⟨p, xs, i, z, rfl, rfl, hq, he, q⟩ := h
  cases rx
  obtain ⟨t, rfl⟩ := ry
  obtain ⟨its, r, pl, hz⟩ := I.list hq
  obtain ⟨j, h1, h2, h3, h4, h5⟩ := atI_get he
  obtain ⟨w, ew, rw'⟩ := r.get h2
  have hl := r.length
  have hn := line63
  have fin : EP X pins σ Q w s := ⟨z, H, I, rw', q⟩
  by_cases h0 : 0 ≤ i
  · have hj : i.toNat = j := by
      rw [seqIndex_of h0 h5] at h1
      exact Option.some.inj h1
    exact wpAny_getItem_list pl.isList h0 (by omega) (by rw [hj]; simpa using ew) fin
  · have hj : (i + (its.toArray.size : Int)).toNat = j := by
      rw [seqIndex_neg (by omega) h4] at h1
      rw [List.size_toArray, ← hl]
      exact Option.some.inj h1
    exact wpAny_getItem_list_neg pl.isList (by omega) (by rw [List.size_toArray] <;> omega) (by omega) (by rw [hj]; simpa using ew) fin
end
/-- what follows a statement, by what it stands for -/
theorem tseq_gen {A B : TS} {D : Ends} {σ : L2.St} {H : Hp} (Z : TS → Prop) (hZ : Z B) (h : ∀ B', Z B' → tSeq A B' D σ H) : tSeq A B D σ H := h B hZ
theorem k_getL {X : Cx} (K : Fg) (e : X.K = K) : PGet X (rIxL K) := e ▸ get_list
section
variable {P : Program} {w : World} {K : PySem.W.Frag} {mg : Str → Option Value} {base : Heap}
/-- the hat as it stands -/
structure HatAt (K : Fg) (S : List Addr) (H : Hp) (a : Addr) : Prop where
  own : a ∈ S
  ex : ∃ (s : Addr) (i b sd : Int) (ns : List Int), H a = some (.lst [.ref s, .int i, .int b, .int sd]) ∧ s ∉ S ∧ SqL K H s (ns.map V.int) ∧ H s = some (.lst (ns.map V.int)) ∧ 0 ≤ i ∧ ns.length ≤ 63 ∧ 0 ≤ b ∧ 0 ≤ sd ∧ sd < 2147483587
abbrev s__law_hat : Stmt := top 45
theorem sc__law_hat : FnScope ["_law_script"] ["_law_script"] (defScope s__law_hat) := ⟨rfl, rfl, rfl, by decide +kernel, rfl, by decide +kernel, by decide +kernel⟩
abbrev s__law_take : Stmt := top 46
theorem sc__law_take : FnScope ["_law_hat_here", "_law_many", "_law_cell", "_law_mixed_here", "_law_got", "_law_seed"] ["_law_hat_here", "_law_many"] (defScope s__law_take) := ⟨rfl, rfl, rfl, by decide +kernel, rfl, by decide +kernel, by decide +kernel⟩
def spHat : Sp := fun vs H Q _ => ∃ (a : Addr) (ns : List Int), vs = [.ref a] ∧ SqL K H a (ns.map V.int) ∧ ns.length ≤ 63 ∧ ∀ p H', H p = none → Same H H' → (∀ S, Own S H → HatAt K (p :: S) H' p) → Q (.ref p) H'
theorem ok__law_hat (T : Tx K mg) : FnOk P w K mg base CX0 1 (He.ga K "_law_hat") T.fd__law_hat ["_law_script"] (spHat (K := K)) := by
  refine T.F__law_hat.ok sc__law_hat (fun vs H Q E h => ?_) (fun cdv A outer s H vs Q E hr h => ?_)
  · obtain ⟨a, ns, rfl, _⟩ := h; rfl
  · obtain ⟨a, ns, rfl, hs, hl, q⟩ := h
    refine ⟨_, (pss_one (ps_ret (pe_lst (pa_cons (pe_callTy (k_listOf K rfl) rfl T.f_list (by decide +kernel) (pa_cons (pe_slice (k_slL K rfl) (pv 0) po_none (po_some pe_int)) pa_nil)) (pa_cons pe_int (pa_cons pe_int (pa_cons (pe_op op_add (pe_op op_mul (pe_callB (k_len K rfl) rfl T.f_len PySem.boot_len (pa_cons (pe_slice (k_slL K rfl) (pv 0) po_none (po_some pe_int)) pa_nil)) pe_int) pe_int) pa_nil))))))), ?_⟩
    have cut : cutV (ns.map V.int) none (some 63) = ns.map V.int := by
      rw [show (some (63 : Int)) = some ((63 : Nat) : Int) from rfl, cutv_hi, List.take_of_length_le (by rw [List.length_map]; exact hl)]
    refine ⟨_, rfl, 63, rfl, a, ns.map V.int, rfl, hs, fun p1 hp1 => ?_⟩
    have s1 := same_up (o := .lst (cutV (ns.map V.int) none (some 63))) hp1
    refine ⟨p1, _, rfl, .inl (.of upd_same), fun p2 hp2 => ?_⟩
    rw [cut] at s1 hp2 ⊢
    have s2 := same_up (o := .lst (ns.map V.int)) hp2
    have g2 : upd (upd H p1 (.lst (ns.map V.int))) p2 (.lst (ns.map V.int)) p2 = some (.lst (ns.map V.int)) := upd_same
    have sm2 := s1.trans s2
    have np2 := upd_no hp2
    generalize upd (upd H p1 (.lst (ns.map V.int))) p2 (.lst (ns.map V.int)) = H2 at s2 g2 sm2
    refine ⟨_, rfl, 63, rfl, a, ns.map V.int, rfl, sm2.seq hs, fun p3 hp3 => ?_⟩
    rw [cut]
    have s3 := same_up (o := .lst (ns.map V.int)) hp3
    have hll : (ns.map V.int).length ≤ 63 := by rw [List.length_map]; exact hl
    refine ⟨p3, _, rfl, .inl (.of upd_same), _, _, rfl, rfl, .inr ⟨by decide, by decide⟩, _, _, rfl, rfl, by show 4 ≤ sizeLine; rw [sizeLine_eq]; decide, fun p4 hp4 => ?_⟩
    have g3 := s3 _ _ g2
    have sm3 := sm2.trans s3
    generalize upd H2 p3 (.lst (ns.map V.int)) = H3 at hp4 g3 sm3
    have sm4 := sm3.trans (same_up (o := .lst [.ref p2, .int 0, .int 0, .int (((ns.map V.int).length : Int) * 31 + 1009)]) hp4)
    have ne : p2 ≠ p4 := fun z => by rw [z, hp4] at g3; cases g3
    have n4 : H p4 = none := by
      cases z : H p4 with
      | none => rfl
      | some o => rw [sm3 _ _ z] at hp4; cases hp4
    refine q p4 _ n4 sm4 fun S ow => ⟨List.mem_cons_self, p2, 0, 0, _, ns, upd_same, fun z => (List.mem_cons.mp z).elim ne (ow.new np2), .of (by rw [upd_ne ne]; exact g3), by rw [upd_ne ne]; exact g3, by decide, hl, by decide, by omega, by omega⟩
def spTake : Sp := fun vs H Q _ => ∃ (S : List Addr) (a : Addr) (m : Nat), vs = [.ref a, .int m] ∧ 1 ≤ m ∧ m < 1073741824 ∧ HatAt K S H a ∧ Own S H ∧ ∀ (r : Nat) H', r < m → Fz [a] H H' → HatAt K S H' a → Own S H' → Q (.int r) H'
theorem ok__law_take (T : Tx K mg) : FnOk P w K mg base CX0 1 (He.ga K "_law_take") T.fd__law_take ["_law_hat_here", "_law_many"] (spTake (K := K)) := by
  refine T.F__law_take.ok sc__law_take (fun vs H Q E h => ?_) (fun cdv A outer s H vs Q E hr h => ?_)
  · obtain ⟨S, a, m, rfl, _⟩ := h; rfl
  · obtain ⟨S, a, m, rfl, hm1, hm2, hat, ow, q⟩ := h
    refine ⟨_, (pss_cons (ps_if (PW.pt (pw_and (pt_cmpR op_eq (pe_ix (k_ixL K rfl) (pv 0) pe_int (fun _ _ => rfl)) pe_int (nomark _)) (pw_and1 (pt_cmpR op_lt (pe_ix (k_ixL K rfl) (pv 0) pe_int (fun _ _ => rfl)) (pe_callB (k_len K rfl) rfl T.f_len PySem.boot_len (pa_cons (pe_ix (k_ixL K rfl) (pv 0) pe_int (fun _ _ => rfl)) pa_nil)) (nomark _))))) (pss_cons (ps_set (i := 2) sc__law_take.nd rfl (Or.inl rfl) (pe_ix (k_ixL K rfl) (pe_ix (k_ixL K rfl) (pv 0) pe_int (fun _ _ => rfl)) (pe_ix (k_ixL K rfl) (pv 0) pe_int (fun _ _ => rfl)) (fun _ _ => rfl)))
      (pss_cons (ps_augS (pv 0) pe_int (k_getL K rfl) pe_int ip_add set_list)
      (pss_one (ps_if (pt_cmpR op_ge (pv 2) (pe_op op_pow pe_int pe_int) (nomark _)) (pss_one (ps_asg (pv 2) (pg_sub (pv 0) pe_int set_list))) (pss_cons (ps_set (i := 3) sc__law_take.nd rfl (Or.inl rfl) (pe_op op_add (pe_op op_add (pe_op op_mul (pe_op op_mod (pv 2) pe_int) pe_int) pe_int) (pe_ix (k_ixL K rfl) (pv 0) pe_int (fun _ _ => rfl))))
      (pss_one (ps_asg (pe_op op_mod (pe_op op_add (pe_op op_mul (pe_ix (k_ixL K rfl) (pv 0) pe_int (fun _ _ => rfl)) pe_int) (pv 3)) pe_int) (pg_sub (pv 0) pe_int set_list)))))))) pss_nil)
      (pss_cons (ps_if (pt_cmpR op_gt (pe_ix (k_ixL K rfl) (pv 0) pe_int (fun _ _ => rfl)) pe_int (nomark _)) (pss_cons (ps_set (i := 4) sc__law_take.nd rfl (Or.inl rfl) (pe_op op_mod (pe_ix (k_ixL K rfl) (pv 0) pe_int (fun _ _ => rfl)) (pv 1)))
      (pss_cons (ps_asg (pe_op op_fdiv (pe_ix (k_ixL K rfl) (pv 0) pe_int (fun _ _ => rfl)) (pv 1)) (pg_sub (pv 0) pe_int set_list))
      (pss_one (ps_ret (pv 4))))) pss_nil)
      (pss_cons (ps_set (i := 5) sc__law_take.nd rfl (Or.inl rfl) (pe_ix (k_ixL K rfl) (pv 0) pe_int (fun _ _ => rfl)))
      (pss_cons (ps_set (i := 5) sc__law_take.nd rfl (Or.inl rfl) (pe_op op_mod (pe_op op_add (pe_op op_add (pe_op op_mul (pe_op op_mod (pe_op op_mul (pv 5) (pv 5)) pe_int) pe_int) (pe_op op_mul (pv 5) pe_int)) pe_int) pe_int))
      (pss_cons (ps_asg (pe_op op_mod (pe_op op_add (pe_op op_add (pe_op op_mul (pv 5) pe_int) pe_int) (pe_op op_mod (pe_ix (k_ixL K rfl) (pv 0) pe_int (fun _ _ => rfl)) pe_int)) pe_int) (pg_sub (pv 0) pe_int set_list))
      (pss_one (ps_ret (pe_op op_mod (pe_op op_add (pe_op op_fdiv (pv 5) pe_int) (pe_op op_mul (pe_op op_mod (pv 5) pe_int) pe_int)) (pv 1))))))))), ?_⟩
    obtain ⟨haS, s, i, b, sd, ns, ha, hsS, hsq, hs, hi, hn, hb, hd1, hd2⟩ := hat
    have hnl : (ns.map V.int).length ≤ 63 := by rw [List.length_map]; exact hn
    refine tseq_gen (fun B => ∀ (c2 c3 : Option V) (i b sd : Int) (H' : Hp), 0 ≤ i → 0 ≤ b → 0 ≤ sd → sd < 2147483587 → Fz [a] H H' → Own S H' → H' a = some (.lst [.ref s, .int i, .int b, .int sd]) → B { nx := fun _ H' => Q .non H', rt := Q } [some (.ref a), some (.int m), c2, c3, none, none] H') ?_ fun B hB => ?_
    · intro c2 c3 i b sd H1 hi hb hd1 hd2 fz ow1 ha1
      have mem : a ∈ [a] := List.mem_singleton.mpr rfl
      have sa : s ≠ a := fun z => hsS (by rw [z]; exact haS)
      have hs1 : H1 s = some (.lst (ns.map V.int)) := fz _ _ (fun z => sa (List.mem_singleton.mp z)) hs
      have fin : ∀ (i' b' sd' : Int) (r : Nat), 0 ≤ i' → 0 ≤ b' → 0 ≤ sd' → sd' < 2147483587 → r < m → Q (.int (r : Nat)) (upd H1 a (.lst [.ref s, .int i', .int b', .int sd'])) := fun i' b' sd' r g1 g2 g3 g4 g5 =>
        q r _ g5 (fz.trans (fz_upd mem)) ⟨haS, s, i', b', sd', ns, upd_same, hsS, .of (by rw [upd_ne sa]; exact hs1), by rw [upd_ne sa]; exact hs1, g1, hn, g2, g3, g4⟩ (ow1.kp .upd)
      have hm0 : (0 : Int) < (m : Int) := by omega
      refine ⟨_, rfl, a, _, 2, _, rfl, rfl, .of ha1, rfl, _, _, rfl, rfl, _, rfl, ite2 (fun e => ?_) fun e => ?_⟩
      · have e := of_decide_eq_true e
        refine ⟨_, rfl, a, _, 2, _, rfl, rfl, .of ha1, rfl, _, rfl, _, _, rfl, rfl, hm0, ?_⟩
        refine ⟨_, rfl, a, _, 2, _, rfl, rfl, .of ha1, rfl, _, rfl, _, _, rfl, rfl, ⟨hm0, by omega⟩, _, rfl, a, _, 2, 2, rfl, rfl, ha1, rfl, ?_⟩
        refine ⟨_, rfl, ?_⟩
        have n1 := Int.emod_nonneg b (show (m : Int) ≠ 0 by omega)
        have n2 := Int.emod_lt_of_pos b hm0
        have := fin i (b / m) sd (b % m).toNat hi (Int.ediv_nonneg hb (by omega)) hd1 hd2 (by omega)
        rw [Int.toNat_of_nonneg n1] at this
        exact this
      · refine ⟨_, rfl, a, _, 3, _, rfl, rfl, .of ha1, rfl, ?_⟩
        refine ⟨_, rfl, _, rfl, _, _, rfl, rfl, .inl ⟨by omega, by omega⟩, _, _, rfl, rfl, (by show (0 : Int) < 2147483629; decide), _, _, rfl, rfl, .inr ⟨by decide, by decide⟩, _, rfl, _, _, rfl, rfl, .inr ⟨by decide, by decide⟩, _, _, rfl, rfl, _, _, rfl, rfl, _, _, rfl, rfl, (by show (0 : Int) < 2147483587; decide), ?_⟩
        have m1 := Int.emod_nonneg (sd * sd % 2147483629 * 16807 + sd * 48271 + 40692) (show (2147483587 : Int) ≠ 0 by decide)
        have m2 := Int.emod_lt_of_pos (sd * sd % 2147483629 * 16807 + sd * 48271 + 40692) (show (0 : Int) < 2147483587 by decide)
        obtain ⟨se, hse⟩ : ∃ se, (sd * sd % 2147483629 * 16807 + sd * 48271 + 40692) % 2147483587 = se := ⟨_, rfl⟩
        rw [hse] at m1 m2
        refine ⟨_, rfl, _, _, rfl, rfl, .inr ⟨by decide, by decide⟩, _, _, rfl, rfl, _, rfl, a, _, 3, _, rfl, rfl, .of ha1, rfl, _, _, rfl, rfl, (by show (0 : Int) < 8191; decide), _, _, rfl, rfl, _, _, rfl, rfl, (by show (0 : Int) < 2147483587; decide), _, rfl, a, _, 3, 3, rfl, rfl, ha1, rfl, ?_⟩
        refine ⟨_, rfl, _, _, rfl, rfl, ⟨by decide, by decide⟩, _, rfl, _, _, rfl, rfl, (by show (0 : Int) < 4093; decide), _, _, rfl, rfl, .inr ⟨by decide, by decide⟩, _, _, rfl, rfl, _, rfl, _, _, rfl, rfl, hm0, ?_⟩
        have n1 := Int.emod_nonneg (se / 61 + se % 4093 * 29) (show (m : Int) ≠ 0 by omega)
        have n2 := Int.emod_lt_of_pos (se / 61 + se % 4093 * 29) hm0
        have k1 := Int.emod_nonneg (se * 31 + 5 + sd % 8191) (show (2147483587 : Int) ≠ 0 by decide)
        have k2 := Int.emod_lt_of_pos (se * 31 + 5 + sd % 8191) (show (0 : Int) < 2147483587 by decide)
        have := fin i b ((se * 31 + 5 + sd % 8191) % 2147483587) ((se / 61 + se % 4093 * 29) % m).toNat hi hb k1 k2 (by omega)
        rw [Int.toNat_of_nonneg n1, ← hse] at this
        exact this
    · have skip := hB none none i b sd H hi hb hd1 hd2 .refl ow ha
      refine ⟨_, rfl, a, _, 2, _, rfl, rfl, .of ha, rfl, rfl, _, rfl, ite2 (fun e => ?_) fun e => iteF skip⟩
      refine ⟨_, rfl, a, _, 1, _, rfl, rfl, .of ha, rfl, _, rfl, a, _, 0, _, rfl, rfl, .of ha, rfl, s, _, rfl, .inl hsq, _, _, rfl, rfl, _, rfl, ite2 (fun e2 => ?_) fun e2 => skip⟩
      have e2 := of_decide_eq_true e2
      obtain ⟨n, rfl⟩ : ∃ n : Nat, i = n := ⟨i.toNat, by omega⟩
      have hn2 : n < ns.length := by rw [List.length_map] at e2; omega
      have mem : a ∈ [a] := List.mem_singleton.mpr rfl
      refine ⟨_, rfl, a, _, 0, _, rfl, rfl, .of ha, rfl, _, rfl, a, _, 1, _, rfl, rfl, .of ha, rfl, s, _, n, .int ns[n], rfl, rfl, hsq, atI_nat (by rw [List.getElem?_map, List.getElem?_eq_getElem hn2]; rfl), ?_⟩
      generalize ns[n] = c
      refine ⟨_, rfl, a, _, 1, _, rfl, rfl, .of ha, rfl, _, _, rfl, rfl, a, _, 1, 1, rfl, rfl, ha, rfl, ?_⟩
      refine ⟨_, rfl, _, _, rfl, rfl, ⟨by decide, by decide, by decide⟩, _, _, rfl, rfl, _, rfl, ite2 (fun e3 => ?_) fun e3 => ?_⟩
      · have e3 := of_decide_eq_true e3
        refine ⟨_, rfl, _, rfl, a, _, 2, 2, rfl, rfl, upd_same, rfl, ?_⟩
        rw [upd_upd]
        refine hB _ _ (n + 1) c sd _ (by omega) ?_ hd1 hd2 (fz_upd mem) (ow.kp .upd) upd_same
        have : (0 : Int) ≤ 10 ^ (18 : Int).toNat := by decide
        omega
      · refine ⟨_, rfl, _, _, rfl, rfl, (by show (0 : Int) < 2147483563; decide), _, _, rfl, rfl, .inr ⟨by decide, by decide⟩, _, _, rfl, rfl, _, rfl, a, _, 1, _, rfl, rfl, .of upd_same, rfl, _, _, rfl, rfl, ?_⟩
        refine ⟨_, rfl, a, _, 3, _, rfl, rfl, .of upd_same, rfl, _, _, rfl, rfl, .inr ⟨by decide, by decide⟩, _, rfl, _, _, rfl, rfl, _, _, rfl, rfl, (by show (0 : Int) < 2147483587; decide), _, rfl, a, _, 3, 3, rfl, rfl, upd_same, rfl, ?_⟩
        rw [upd_upd]
        exact hB _ _ (n + 1) b _ _ (by omega) hb (Int.emod_nonneg _ (by decide)) (Int.emod_lt_of_pos _ (by decide)) (fz_upd mem) (ow.kp .upd) upd_same
end
end Pw
end
section
set_option linter.all false
set_option maxRecDepth 100000
set_option maxHeartbeats 2000000
/-! Law 2: the same data. -/
namespace Pw
open PySem PySem.Spec PyProof.Rows L2
theorem k_isi {X : Cx} (K : Fg) (e : X.K = K) : CallR X (.builtin "isinstance") (rIsi K) := e ▸ call_isi
theorem k_isiT {X : Cx} (K : Fg) (e : X.K = K) : CallR X (.builtin "isinstance") (rIsiT K) := e ▸ call_isiT
theorem k_zipA {X : Cx} (K : Fg) (eK : X.K = K) {e e2 : Expr} {ta : TA} {p pos tpos : Pos} {elts : List Expr} {kk : Nat} (hg : Gl X "zip") (hm : X.mg "zip" = none) (ha : PA X [e, e2] ta)
    (hs : starEach [e, e2] X.env = (false, eval e X.env) :: starEach [e2] X.env := by rfl) (hpl : (backTo pos (starEach [e2] X.env)).any (·.1) = false := by rfl) :
    PI X (.Tuple elts kk tpos) (.Call (.Name "zip" p) [e, e2] [] pos) (RZ.iZipA K ta) := eK ▸ RZ.pi_zipA hg hm ha hs hpl
/-- leaves, lists, tuples of small length and depth -/
def leafD : PyData → Prop
  | .none => True
  | .int _ => True
  | .str _ => True
  | _ => False
def sml : Nat → PyData → Prop
  | 0, _ => False
  | n + 1, d => leafD d ∨ ∃ ds, (d = .list ds ∨ d = .tuple ds) ∧ ds.length ≤ 1000 ∧ ∀ x ∈ ds, sml n x
theorem kitA {K : Fg} {t a b : String} {c1 c2 : Bool} (h1 : kitB t a = some c1) (h2 : kitB t b = some c2) : PySem.W.kitAny K (.type t) [.type a, .type b] = some (c1 || c2) :=
  kitAny_cons (kit_ty h1) (fun e => by
    subst e
    exact kitAny_cons (kit_ty h2) (fun e => by subst e; exact kitAny_nil) (fun e => by subst e; rfl)) (fun e => by subst e; rfl)
section
variable {P : Program} {w : World} {K : PySem.W.Frag} {mg : Str → Option Value} {base : Heap}
abbrev s__law_same : Stmt := top 47
theorem sc__law_same : FnScope ["_law_found", "_law_due", "_law_one", "_law_other"] ["_law_found", "_law_due"] (defScope s__law_same) := ⟨rfl, rfl, rfl, by decide +kernel, rfl, by decide +kernel, by decide +kernel⟩
def spSame (B : Nat) : Sp := fun vs H Q _ => ∃ (S : List Addr) (v1 v2 : V) (d : PyData), vs = [v1, v2] ∧ Tp (Hd S H) v1 d ∧ Tp (Hd S H) v2 d ∧ Own S H ∧ sml B d ∧ ∀ H', Same H H' → Q (.bl true) H'
/-- the turns' comparisons, all true -/
theorem same_lc {J : It} {n : Nat} {xs1 xs2 : List V} {H0 : Hp} {D : Addr} {g : TG} {tt : TT} {te : TE} {vs : List Nat} {σ : L2.St} {Qd : Hp → Prop} (hn : n ≤ 1000) (hD : H0 D = none) (src : ∀ i H, Same H0 H → (i < n → J.go i H) ∧ (i = n → J.stop i H))
    (yl : ∀ i v H H', i < n → Same H0 H → J.yld i H v H' → ∃ T x y, v = .ref T ∧ H T = none ∧ H' = upd H T (.tup [x, y]) ∧ xs1[i]? = some x ∧ xs2[i]? = some y)
    (turn : ∀ i x y T H, i < n → Same H0 H → H T = none → xs1[i]? = some x → xs2[i]? = some y → ∀ NF : Hp → Prop, ∀ NT : Hp → V → Prop, (∀ H', Same (upd H T (.tup [x, y])) H' → NT H' (.bl true)) → g (.ref T) (wipe σ vs) (upd H T (.tup [x, y])) fun σ2 H2 => wipe σ2 vs = wipe σ vs ∧ tt σ2 H2 fun b H3 => if b = true then te σ2 H3 fun y H4 => NT H4 y else NF H3)
    (done : ∀ H, Same H0 H → H D = some (.lst ((List.replicate n true).map V.bl)) → Qd H) :
    ∃ W : Nat → Nat → Hp → Prop, (∃ m, W 0 m (upd H0 D (.lst []))) ∧ ∀ i m H, W i m H →
      (J.stop i H ∧ Qd H) ∨ (J.go i H ∧ ∃ Nx : Hp → Prop, (∀ H', Nx H' → ∃ m', m' < m ∧ W (i + 1) m' H') ∧ ∀ x H', J.yld i H x H' → g x (wipe σ vs) H' fun σ2 H2 => wipe σ2 vs = wipe σ vs ∧ tt σ2 H2 fun b H3 =>
        if b = true then te σ2 H3 fun y H4 => ∃ acc, H4 D = some (.lst acc) ∧ acc.length < sizeLine ∧ Nx (upd H4 D (.lst (acc ++ [y]))) else Nx H3) := by
  refine lc_val (J := J) (n := n) (fun i => (List.replicate i true).map V.bl) rfl (fun i hi => by rw [List.length_map, List.length_replicate]; exact Nat.le_refl _) (by rw [sizeLine_eq]; omega) hD src (fun i v H H' hi sm hy => ?_) done
  obtain ⟨T, x, y, rfl, hT, rfl, h1, h2⟩ := yl i v H H' hi sm hy
  refine ⟨same_up hT, fun NF NT k1 k2 => turn i x y T H hi sm hT h1 h2 NF NT fun H' sm' => k2 _ ?_ _ sm'⟩
  show (List.replicate (i + 1) true).map V.bl = _
  rw [List.replicate_succ', List.map_append]; rfl
theorem ok_law_same_B (T : Tx K mg) : ∀ B : Nat, FnOk P w K mg base CX0 (B + 1) (He.ga K "_law_same") T.fd__law_same ["_law_found", "_law_due"] (spSame B)
  | 0 => ⟨fun vs H Q E h => (by obtain ⟨_, _, _, _, _, _, _, _, h, _⟩ := h; exact h.elim), fun A outer s H args us vs Q E _ _ _ _ h => (by obtain ⟨_, _, _, _, _, _, _, _, h, _⟩ := h; exact h.elim)⟩
  | B + 1 => by
    have ih := ok_law_same_B T B
    refine T.F__law_same.ok sc__law_same (fun vs H Q E h => ?_) (fun cdv A outer s H vs Q E hr h => ?_)
    · obtain ⟨S, v1, v2, d, rfl, _⟩ := h; rfl
    · obtain ⟨S, v1, v2, d, rfl, h1, h2, ow, sm, q⟩ := h
      refine ⟨_, (pss_cons (ps_if (pt_val (pe_callB (k_isiT K rfl) rfl T.f_isinstance (by decide +kernel) (pa_cons (pv 1) (pa_cons (pe_tup (pa_cons (pe_bltn (v := .ty "list") (by rfl) T.f_list PyProof.Rows.boot_list rfl) (pa_cons (pe_bltn (v := .ty "tuple") (by rfl) T.f_tuple PyProof.Rows.boot_tuple rfl) pa_nil))) pa_nil)))) (pss_cons (ps_if (PW.pt (pw_or (pt_cmpR op_ne (pe_callB (k_isi K rfl) rfl T.f_isinstance (by decide +kernel) (pa_cons (pv 0) (pa_cons (pe_bltn (v := .ty "list") (by rfl) T.f_list PyProof.Rows.boot_list rfl) pa_nil))) (pe_callB (k_isi K rfl) rfl T.f_isinstance (by decide +kernel) (pa_cons (pv 1) (pa_cons (pe_bltn (v := .ty "list") (by rfl) T.f_list PyProof.Rows.boot_list rfl) pa_nil))) (nomark _)) (pw_or1 (pt_cmpR op_ne (pe_callB (k_isi K rfl) rfl T.f_isinstance (by decide +kernel) (pa_cons (pv 0) (pa_cons (pe_bltn (v := .ty "tuple") (by rfl) T.f_tuple PyProof.Rows.boot_tuple rfl) pa_nil))) (pe_callB (k_isi K rfl) rfl T.f_isinstance (by decide +kernel) (pa_cons (pv 1) (pa_cons (pe_bltn (v := .ty "tuple") (by rfl) T.f_tuple PyProof.Rows.boot_tuple rfl) pa_nil))) (nomark _))))) (pss_one (ps_ret pe_bl)) pss_nil)
      (pss_one (ps_ret (pe_and (pe_cmpR op_eq (pe_callB (k_len K rfl) rfl T.f_len PySem.boot_len (pa_cons (pv 0) pa_nil)) (pe_callB (k_len K rfl) rfl T.f_len PySem.boot_len (pa_cons (pv 1) pa_nil)) (nomark _)) (pe_one (pe_callB (k_all K rfl rfl) rfl T.f_all (by decide +kernel) (pa_cons (pe_lc (own := [("_law_one", 2), ("_law_other", 3)]) rfl sc__law_same.nd (k_zipA K rfl (by rfl) T.f_zip (pa_cons (pv 0) (pa_cons (pv 1) pa_nil))) (blkOk_by (own := [("_law_one", 2), ("_law_other", 3)]) (N := ["_law_found", "_law_due", "_law_one", "_law_other"]) (sc := (defScope s__law_same)) (by decide +kernel)) (fun _ _ _ _ _ => (k_pgT K rfl (n := 2) rfl (pgs_cons (pg_name (i := 2) sc__law_same.nd rfl (Or.inl rfl)) (pgs_cons (pg_name (i := 3) sc__law_same.nd rfl (Or.inl rfl)) pgs_nil)))) (fun _ _ _ _ _ => pts_nil) (fun _ _ _ _ _ => (pe_call ih (hr.mono (by omega)) rfl T.g__law_same T.F__law_same.kp (b__law_same T) .nil pass0 (pa_cons (pv 2) (pa_cons (pv 3) pa_nil))))) pa_nil))))))) pss_nil)
      (pss_cons (ps_if (PW.pt (pw_or (pt_cmpR op_isN (pv 1) pe_non (nomark _)) (pw_or1 (pt_cmpR op_isN (pv 0) pe_non (nomark _))))) (pss_one (ps_ret (pe_and (pe_cmpR op_isN (pv 0) pe_non (nomark _)) (pe_one (pe_cmpR op_isN (pv 1) pe_non (nomark _)))))) pss_nil)
      (pss_cons (ps_if (PW.pt (pw_or (pt_cmpR op_ne (pe_callB (k_isi K rfl) rfl T.f_isinstance (by decide +kernel) (pa_cons (pv 1) (pa_cons (pe_bltn (v := .ty "bool") (by rfl) T.f_bool PyProof.Rows.boot_bool rfl) pa_nil))) (pe_callB (k_isi K rfl) rfl T.f_isinstance (by decide +kernel) (pa_cons (pv 0) (pa_cons (pe_bltn (v := .ty "bool") (by rfl) T.f_bool PyProof.Rows.boot_bool rfl) pa_nil))) (nomark _)) (pw_or1 (pt_cmpR op_ne (pe_callB (k_isi K rfl) rfl T.f_isinstance (by decide +kernel) (pa_cons (pv 1) (pa_cons (pe_bltn (v := .ty "int") (by rfl) T.f_int PyProof.Rows.boot_int rfl) pa_nil))) (pe_callB (k_isi K rfl) rfl T.f_isinstance (by decide +kernel) (pa_cons (pv 0) (pa_cons (pe_bltn (v := .ty "int") (by rfl) T.f_int PyProof.Rows.boot_int rfl) pa_nil))) (nomark _))))) (pss_one (ps_ret pe_bl)) pss_nil)
      (pss_one (ps_ret (pe_and (pe_cmpR op_eq (pe_callB (k_isi K rfl) rfl T.f_isinstance (by decide +kernel) (pa_cons (pv 1) (pa_cons (pe_bltn (v := .ty "str") (by rfl) T.f_str PyProof.Rows.boot_str rfl) pa_nil))) (pe_callB (k_isi K rfl) rfl T.f_isinstance (by decide +kernel) (pa_cons (pv 0) (pa_cons (pe_bltn (v := .ty "str") (by rfl) T.f_str PyProof.Rows.boot_str rfl) pa_nil))) (nomark _)) (pe_one (pe_cmpR op_eq (pv 0) (pv 1) (nomark _))))))))), ?_⟩
      have tt : ∀ b : Bool, (!decide (V.bl b = V.bl b)) = false := fun b => by rw [decide_eq_true rfl]; rfl
      have t2 : ∀ b : Bool, decide (V.bl b = V.bl b) = true := fun b => decide_eq_true rfl
      rcases sm with lf | ⟨ds, hds, hlen, sub⟩
      · have lf2 : (v1 = .non ∧ v2 = .non) ∨ ∃ (t : String) (b1 b2 b3 : Bool), v1 ≠ .non ∧ scal v1 v1 = true ∧ v2 = v1 ∧ (∀ H', TyX K H' v1 (.type t)) ∧ kitB t "list" = some false ∧ kitB t "tuple" = some false ∧ kitB t "bool" = some b1 ∧ kitB t "int" = some b2 ∧ kitB t "str" = some b3 := by
          cases h1 with
          | non => cases h2; exact .inl ⟨rfl, rfl⟩
          | int i => cases h2; exact .inr ⟨"int", false, true, false, (fun z => nomatch z), rfl, rfl, fun _ => .base (.int _), by decide +kernel, by decide +kernel, by decide +kernel, by decide +kernel, by decide +kernel⟩
          | str x => cases h2; exact .inr ⟨"str", false, false, true, (fun z => nomatch z), rfl, rfl, fun _ => .base (.str _), by decide +kernel, by decide +kernel, by decide +kernel, by decide +kernel, by decide +kernel⟩
          | bl b => exact lf.elim
          | lst => exact lf.elim
          | tup => exact lf.elim
        rcases lf2 with ⟨rfl, rfl⟩ | ⟨t, b1, b2, b3, nn, sc, rfl, ty, k1, k2, k3, k4, k5⟩
        · refine ⟨_, rfl, two_line, fun tp htp => ?_⟩
          refine ⟨_, tp, _, _, _, _, rfl, upd_same, .cons (.ty _) (.cons (.ty _) .nil), (.base .non), (kitA (t := "NoneType") (c1 := false) (c2 := false) (by decide +kernel) (by decide +kernel)), false, rfl, iteF ?_⟩
          refine ⟨_, rfl, rfl, _, rfl, iteT ?_⟩
          exact ⟨_, rfl, rfl, _, rfl, iteT ⟨_, rfl, rfl, q _ (same_up htp)⟩⟩
        · refine ⟨_, rfl, two_line, fun tp htp => ?_⟩
          refine ⟨_, tp, _, _, _, _, rfl, upd_same, .cons (.ty _) (.cons (.ty _) .nil), (ty _), (kitA k1 k2), false, rfl, iteF ?_⟩
          have nn' : decide (v2 = V.non) = false := decide_eq_false nn
          refine ⟨_, rfl, rfl, _, rfl, ?_⟩
          rw [nn']
          refine iteF ⟨_, rfl, rfl, _, rfl, ?_⟩
          rw [nn']
          refine iteF ?_
          refine ⟨_, rfl, _, _, _, _, _, rfl, .ty _, (ty _), kit_ty k3, _, rfl, _, _, _, _, _, rfl, .ty _, (ty _), kit_ty k3, rfl, _, rfl, ?_⟩
          rw [tt]
          refine iteF ⟨_, rfl, _, _, _, _, _, rfl, .ty _, (ty _), kit_ty k4, _, rfl, _, _, _, _, _, rfl, .ty _, (ty _), kit_ty k4, rfl, _, rfl, ?_⟩
          rw [tt]
          refine iteF ?_
          refine ⟨_, rfl, _, _, _, _, _, rfl, .ty _, (ty _), kit_ty k5, _, rfl, _, _, _, _, _, rfl, .ty _, (ty _), kit_ty k5, rfl, _, rfl, ?_⟩
          rw [t2]
          refine iteT ⟨_, rfl, _, rfl, sc, ?_⟩
          rw [decide_eq_true rfl]
          exact q _ (same_up htp)
      · rcases hds with rfl | rfl
        · obtain ⟨a1, xs1, rfl, ha1, hx1⟩ := dp_list h1
          obtain ⟨a2, xs2, rfl, ha2, hx2⟩ := dp_list h2
          have l1 := dpAll_len hx1
          have l2 := dpAll_len hx2
          have g1 := (Hd_some ha1).2
          have g2 := (Hd_some ha2).2
          refine ⟨_, rfl, two_line, fun tp htp => ?_⟩
          have s1 := same_up (o := .tup [V.ty "list", V.ty "tuple"]) htp
          refine ⟨_, tp, _, _, _, _, rfl, upd_same, .cons (.ty _) (.cons (.ty _) .nil), (.base (.lst (s1 _ _ g2))), (kitA (c1 := true) (c2 := false) (by decide +kernel) (by decide +kernel)), true, rfl, iteT ?_⟩
          have t1 : TyX K (upd H tp (.tup [V.ty "list", V.ty "tuple"])) (.ref a1) (.type "list") := .base (.lst (s1 _ _ g1))
          have t3 : TyX K (upd H tp (.tup [V.ty "list", V.ty "tuple"])) (.ref a2) (.type "list") := .base (.lst (s1 _ _ g2))
          refine ⟨_, rfl, _, _, _, _, _, rfl, .ty _, t1, kit_ty (r := true) (by decide +kernel), _, rfl, _, _, _, _, _, rfl, .ty _, t3, kit_ty (r := true) (by decide +kernel), rfl, _, rfl, ?_⟩
          rw [tt]
          refine iteF ⟨_, rfl, _, _, _, _, _, rfl, .ty _, t1, kit_ty (r := false) (by decide +kernel), _, rfl, _, _, _, _, _, rfl, .ty _, t3, kit_ty (r := false) (by decide +kernel), rfl, _, rfl, ?_⟩
          rw [tt]
          refine iteF ?_
          refine ⟨_, rfl, a1, xs1, rfl, .inl (.of (s1 _ _ g1)), _, rfl, a2, xs2, rfl, .inl (.of (s1 _ _ g2)), rfl, _, rfl, ?_⟩
          rw [decide_eq_true (congrArg (fun n : Nat => V.int (n : Int)) (l1.trans l2.symm))]
          refine iteT ⟨_, rfl, _, rfl, a1, a2, xs1, xs2, rfl, .inl ⟨.of (s1 _ _ g1), .of (s1 _ _ g2), fun D hD => ?_⟩⟩
          refine same_lc (n := ds.length) (xs1 := xs1) (xs2 := xs2) hlen hD (fun i H1 s2 => ?_) (fun i v H1 H2 hi s2 hy => ?_) (fun i x y TT H1 hi s2 hT e1 e2 NF NT k2 => ?_) (fun H1 s2 hD1 => ?_)
          · have c1 : SqL K H1 a1 xs1 := .of (s2 _ _ (s1 _ _ g1))
            have c2 : SqL K H1 a2 xs2 := .of (s2 _ _ (s1 _ _ g2))
            exact ⟨fun hi => ⟨xs1, xs2, xs1[i]'(by omega), xs2[i]'(by omega), c1, c2, List.getElem?_eq_getElem _, List.getElem?_eq_getElem _⟩, fun hi => ⟨xs1, xs2, c1, c2, .inl (by omega)⟩⟩
          · obtain ⟨TT, x, y, e0, hT, e1, k1, k2⟩ := hy
            exact ⟨TT, x, y, e0, hT, e1, k1 _ (.of (s2 _ _ (s1 _ _ g1))), k2 _ (.of (s2 _ _ (s1 _ _ g2)))⟩
          · obtain ⟨d1, f1, p1⟩ := dpAll_at hx1 e1
            obtain ⟨d2, f2, p2⟩ := dpAll_at hx2 e2
            rw [f1] at f2
            injection f2 with f2
            subst f2
            have s3 := (s1.trans s2).trans (same_up (o := .tup [x, y]) hT)
            refine ⟨TT, _, rfl, .of upd_same, rfl, _, _, rfl, _, _, rfl, rfl, rfl, ?_⟩
            exact ⟨_, rfl, _, rfl, S, x, y, d1, rfl, dp_same (same_hd s3) _ _ p1, dp_same (same_hd s3) _ _ p2, ow.same s3, sub _ (List.mem_of_getElem? f1), fun H' sm' => k2 H' sm'⟩
          · refine ⟨D, List.replicate ds.length true, rfl, .of hD1, ?_⟩
            rw [show (List.replicate ds.length true).all id = true by simp]
            exact q _ (s1.trans s2)
        · obtain ⟨a1, xs1, rfl, ha1, hx1⟩ := dp_tuple h1
          obtain ⟨a2, xs2, rfl, ha2, hx2⟩ := dp_tuple h2
          have l1 := dpAll_len hx1
          have l2 := dpAll_len hx2
          have g1 := (Hd_some ha1).2
          have g2 := (Hd_some ha2).2
          refine ⟨_, rfl, two_line, fun tp htp => ?_⟩
          have s1 := same_up (o := .tup [V.ty "list", V.ty "tuple"]) htp
          refine ⟨_, tp, _, _, _, _, rfl, upd_same, .cons (.ty _) (.cons (.ty _) .nil), (.base (.tup (s1 _ _ g2))), (kitA (c1 := false) (c2 := true) (by decide +kernel) (by decide +kernel)), true, rfl, iteT ?_⟩
          have t1 : TyX K (upd H tp (.tup [V.ty "list", V.ty "tuple"])) (.ref a1) (.type "tuple") := .base (.tup (s1 _ _ g1))
          have t3 : TyX K (upd H tp (.tup [V.ty "list", V.ty "tuple"])) (.ref a2) (.type "tuple") := .base (.tup (s1 _ _ g2))
          refine ⟨_, rfl, _, _, _, _, _, rfl, .ty _, t1, kit_ty (r := false) (by decide +kernel), _, rfl, _, _, _, _, _, rfl, .ty _, t3, kit_ty (r := false) (by decide +kernel), rfl, _, rfl, ?_⟩
          rw [tt]
          refine iteF ⟨_, rfl, _, _, _, _, _, rfl, .ty _, t1, kit_ty (r := true) (by decide +kernel), _, rfl, _, _, _, _, _, rfl, .ty _, t3, kit_ty (r := true) (by decide +kernel), rfl, _, rfl, ?_⟩
          rw [tt]
          refine iteF ?_
          refine ⟨_, rfl, a1, xs1, rfl, .inr (.of (s1 _ _ g1)), _, rfl, a2, xs2, rfl, .inr (.of (s1 _ _ g2)), rfl, _, rfl, ?_⟩
          rw [decide_eq_true (congrArg (fun n : Nat => V.int (n : Int)) (l1.trans l2.symm))]
          refine iteT ⟨_, rfl, _, rfl, a1, a2, xs1, xs2, rfl, .inr ⟨.of (s1 _ _ g1), .of (s1 _ _ g2), fun D hD => ?_⟩⟩
          refine same_lc (n := ds.length) (xs1 := xs1) (xs2 := xs2) hlen hD (fun i H1 s2 => ?_) (fun i v H1 H2 hi s2 hy => ?_) (fun i x y TT H1 hi s2 hT e1 e2 NF NT k2 => ?_) (fun H1 s2 hD1 => ?_)
          · have c1 : SqT K H1 a1 xs1 := .of (s2 _ _ (s1 _ _ g1))
            have c2 : SqT K H1 a2 xs2 := .of (s2 _ _ (s1 _ _ g2))
            exact ⟨fun hi => ⟨xs1, xs2, xs1[i]'(by omega), xs2[i]'(by omega), c1, c2, List.getElem?_eq_getElem _, List.getElem?_eq_getElem _⟩, fun hi => ⟨xs1, xs2, c1, c2, .inl (by omega)⟩⟩
          · obtain ⟨TT, x, y, e0, hT, e1, k1, k2⟩ := hy
            exact ⟨TT, x, y, e0, hT, e1, k1 _ (.of (s2 _ _ (s1 _ _ g1))), k2 _ (.of (s2 _ _ (s1 _ _ g2)))⟩
          · obtain ⟨d1, f1, p1⟩ := dpAll_at hx1 e1
            obtain ⟨d2, f2, p2⟩ := dpAll_at hx2 e2
            rw [f1] at f2
            injection f2 with f2
            subst f2
            have s3 := (s1.trans s2).trans (same_up (o := .tup [x, y]) hT)
            refine ⟨TT, _, rfl, .of upd_same, rfl, _, _, rfl, _, _, rfl, rfl, rfl, ?_⟩
            exact ⟨_, rfl, _, rfl, S, x, y, d1, rfl, dp_same (same_hd s3) _ _ p1, dp_same (same_hd s3) _ _ p2, ow.same s3, sub _ (List.mem_of_getElem? f1), fun H' sm' => k2 H' sm'⟩
          · refine ⟨D, List.replicate ds.length true, rfl, .of hD1, ?_⟩
            rw [show (List.replicate ds.length true).all id = true by simp]
            exact q _ (s1.trans s2)
end
end Pw
end
section
set_option linter.all false
set_option maxRecDepth 100000
set_option maxHeartbeats 2000000
/-! Law 3: odd, mixed. -/
namespace Pw
open PySem PySem.Spec PyProof.Rows L2
section
variable {K : Fg} {S : List Addr} {H H' : Hp} {a f D : Addr}
theorem HatAt.fz (h : HatAt K S H a) (e : Fz S H H') (ea : H' a = H a) : HatAt K S H' a := by
  obtain ⟨h0, s, i, b, sd, ns, h1, h2, h3, h4, r⟩ := h
  exact ⟨h0, s, i, b, sd, ns, by rw [ea]; exact h1, h2, .of (e _ _ h2 h4), e _ _ h2 h4, r⟩
theorem HatAt.same (h : HatAt K S H a) (e : Same H H') : HatAt K S H' a := by
  obtain ⟨h0, s, i, b, sd, ns, h1, h2, h3, h4, r⟩ := h
  exact ⟨h0, s, i, b, sd, ns, e _ _ h1, h2, .of (e _ _ h4), e _ _ h4, r⟩
theorem HatAt.into (h : HatAt K S H a) (e : Same H H') (n : H D = none) : HatAt K (D :: S) H' a := by
  obtain ⟨h0, s, i, b, sd, ns, h1, h2, h3, h4, r⟩ := h
  exact ⟨List.mem_cons_of_mem _ h0, s, i, b, sd, ns, e _ _ h1, fun z => (List.mem_cons.mp z).elim (fun z => by rw [z, n] at h4; cases h4) h2, .of (e _ _ h4), e _ _ h4, r⟩
theorem HatAt.out (h : HatAt K (D :: S) H a) (m : a ∈ S) : HatAt K S H a := by
  obtain ⟨h0, s, i, b, sd, ns, h1, h2, r⟩ := h
  exact ⟨m, s, i, b, sd, ns, h1, fun z => h2 (List.mem_cons_of_mem _ z), r⟩
theorem HatAt.upd {o : HO} (h : HatAt K S H a) (m : f ∈ S) (n : f ≠ a) : HatAt K S (upd H f o) a := h.fz (fz_upd m) (upd_ne fun z => n z.symm)
theorem HatAt.some (h : HatAt K S H a) : ∃ o, H a = some o := let ⟨_, _, _, _, _, _, h1, _⟩ := h; ⟨_, h1⟩
theorem HatAt.ne (h : HatAt K S H a) (n : H f = none) : f ≠ a := fun z => by
  obtain ⟨o, e⟩ := h.some
  rw [← z, n] at e; cases e
theorem Fz.drop {S : List Addr} (h : Fz (f :: S) H H') (n : H f = none) : Fz S H H' := fun b o m e => h b o (fun z => (List.mem_cons.mp z).elim (fun z => by rw [z, n] at e; cases e) m) e
theorem sub2 {S : List Addr} (m : a ∈ S) : ∀ b ∈ [a], b ∈ S := fun b hb => by rw [List.mem_singleton.mp hb]; exact m
theorem At.fz {α : Type} [LT α] [STO α] [DecidableEq α] [DecidableLT α] {A : Enc α} {v : V} {x : α} (h : At (Hd S H) A v x) (e : Fz S H H') : At (Hd S H') A v x := h.same e.hd
theorem Ats.fz {α : Type} [LT α] [STO α] [DecidableEq α] [DecidableLT α] {A : Enc α} {vs : List V} {x : List α} (h : Ats (Hd S H) A vs x) (e : Fz S H H') : Ats (Hd S H') A vs x := h.same e.hd
theorem Ats.up1 {α : Type} [LT α] [STO α] [DecidableEq α] [DecidableLT α] {A : Enc α} {vs : List V} {x : List α} {o : HO} (h : Ats (Hd S H) A vs x) (m : f ∈ S) : Ats (Hd S (upd H f o)) A vs x := by rw [hd_upd m]; exact h
theorem At.up1 {α : Type} [LT α] [STO α] [DecidableEq α] [DecidableLT α] {A : Enc α} {v : V} {x : α} {o : HO} (h : At (Hd S H) A v x) (m : f ∈ S) : At (Hd S (upd H f o)) A v x := by rw [hd_upd m]; exact h
end
theorem erase_one {α : Type} : ∀ {L : List α} {r : Nat} {y : α}, L[r]? = some y → (y :: L.eraseIdx r).Perm L
  | [], _, _, h => by simp at h
  | x :: L, 0, y, h => by
    have e : x = y := by simpa using h
    subst e
    exact .refl _
  | x :: L, r + 1, y, h => by
    have h' : L[r]? = some y := by simpa using h
    show (y :: x :: L.eraseIdx r).Perm (x :: L)
    exact (List.Perm.swap x y _).trans ((erase_one h').cons x)
theorem erase_perm {α : Type} {L F R : List α} {r : Nat} {y : α} (h : L[r]? = some y) (p : (F ++ L).Perm R) : ((F ++ [y]) ++ L.eraseIdx r).Perm R := by
  rw [List.append_assoc]
  exact ((erase_one h).append_left F).trans p
section
variable {P : Program} {w : World} {K : PySem.W.Frag} {mg : Str → Option Value} {base : Heap}
abbrev s__law_odd : Stmt := top 48
theorem sc__law_odd : FnScope ["_law_hat_here", "_law_number", "_law_some"] ["_law_hat_here"] (defScope s__law_odd) := ⟨rfl, rfl, rfl, by decide +kernel, rfl, by decide +kernel, by decide +kernel⟩
def spOdd : Sp := fun vs H Q _ => ∃ (S : List Addr) (a : Addr), vs = [.ref a] ∧ HatAt K S H a ∧ Own S H ∧ ∀ (z : Int) H', Fz [a] H H' → HatAt K S H' a → Own S H' → Q (.int z) H'
theorem ok__law_odd (T : Tx K mg) : FnOk P w K mg base CX0 2 (He.ga K "_law_odd") T.fd__law_odd ["_law_hat_here"] (spOdd (K := K)) := by
  refine T.F__law_odd.ok sc__law_odd (fun vs H Q E h => ?_) (fun cdv A outer s H vs Q E hr h => ?_)
  · obtain ⟨S, a, rfl, _⟩ := h; rfl
  · obtain ⟨S, a, rfl, hat, ow, q⟩ := h
    refine ⟨_, (pss_cons (ps_set (i := 1) sc__law_odd.nd rfl (Or.inl rfl) (pe_call (ok__law_take T) (hr.mono (by decide)) rfl T.g__law_take T.F__law_take.kp (b__law_take T) .nil pass0 (pa_cons (pv 0) (pa_cons (pe_op op_pow pe_int pe_int) pa_nil))))
      (pss_cons (ps_set (i := 2) sc__law_odd.nd rfl (Or.inl rfl) (pe_lst (pa_cons (pe_un un_neg pe_int) (pa_cons pe_int (pa_cons pe_int (pa_cons pe_int (pa_cons pe_int (pa_cons (pe_op op_sub (pe_un un_neg pe_int) (pv 1)) pa_nil))))))))
      (pss_cons (ps_expr (pe_bm PySem.F.plainAttrs_list PySem.F.slot_list_extend PySem.F.type_list_extend mt_extend (pv 2) (pa_cons (pe_lst (pa_cons (pe_op op_mul (pv 1) (pe_op op_pow pe_int pe_int)) (pa_cons (pe_op op_sub pe_int (pe_op op_mul (pv 1) (pe_op op_pow pe_int pe_int))) pa_nil))) pa_nil)))
      (pss_one (ps_ret (pe_ix (k_ixL K rfl) (pv 2) (pe_call (ok__law_take T) (hr.mono (by decide)) rfl T.g__law_take T.F__law_take.kp (b__law_take T) .nil pass0 (pa_cons (pv 0) (pa_cons pe_int pa_nil))) (fun _ _ => rfl))))))), ?_⟩
    have haS := hat.own
    refine ⟨_, rfl, _, _, rfl, rfl, ⟨by decide, by decide, by decide⟩, S, a, 1000000000, rfl, by decide, by decide, hat, ow, fun n H1 hn fz1 hat1 ow1 => ?_⟩
    refine ⟨_, rfl, _, rfl, _, rfl, _, _, rfl, rfl, by show 6 ≤ sizeLine; rw [sizeLine_eq]; decide, fun p1 hp1 => ?_⟩
    have s2 := same_up (o := .lst [V.int (-1), .int 0, .int 1, .int 60, .int 61, .int (-1 - (n : Int))]) hp1
    have g1 : upd H1 p1 (.lst [V.int (-1), .int 0, .int 1, .int 60, .int 61, .int (-1 - (n : Int))]) p1 = some (.lst [V.int (-1), .int 0, .int 1, .int 60, .int 61, .int (-1 - (n : Int))]) := upd_same
    have hat2 := hat1.into s2 hp1
    have ow2 : Own (p1 :: S) _ := own_in (o := .lst [V.int (-1), .int 0, .int 1, .int 60, .int 61, .int (-1 - (n : Int))]) ow1 hp1
    have na := hat1.ne hp1
    have n0 : H p1 = none := by
      cases z : H p1 with
      | none => rfl
      | some o =>
        by_cases y : p1 = a
        · exact absurd y na
        · rw [fz1 _ _ (fun x => y (List.mem_singleton.mp x)) z] at hp1; cases hp1
    generalize upd H1 p1 (.lst [V.int (-1), .int 0, .int 1, .int 60, .int 61, .int (-1 - (n : Int))]) = H2 at s2 g1 hat2 ow2
    refine ⟨_, rfl, .inl ⟨rfl, _, .of g1⟩, _, rfl, _, _, rfl, rfl, ⟨by decide, by decide, by decide⟩, _, _, rfl, rfl, .inl ⟨by omega, by omega⟩, _, rfl, _, _, rfl, rfl, ⟨by decide, by decide, by decide⟩, _, _, rfl, rfl, .inl ⟨by omega, by omega⟩, _, _, rfl, rfl, by show 2 ≤ sizeLine; rw [sizeLine_eq]; decide, fun p2 hp2 => ?_⟩
    have s3 := same_up (o := .lst [V.int ((n : Int) * 10 ^ (10 : Int).toNat), .int (0 - (n : Int) * 10 ^ (10 : Int).toNat)]) hp2
    refine ⟨p1, p2, _, _, rfl, rfl, s3 _ _ g1, upd_same, by show 6 + 2 ≤ sizeLine; rw [sizeLine_eq]; decide, ?_⟩
    have hat3 := (hat2.same s3).upd (o := .lst ([V.int (-1), .int 0, .int 1, .int 60, .int 61, .int (-1 - (n : Int))] ++ [V.int ((n : Int) * 10 ^ (10 : Int).toNat), .int (0 - (n : Int) * 10 ^ (10 : Int).toNat)])) List.mem_cons_self na
    have ow3 := (ow2.same s3).kp (.upd (l := p1) (o := .lst ([V.int (-1), .int 0, .int 1, .int 60, .int 61, .int (-1 - (n : Int))] ++ [V.int ((n : Int) * 10 ^ (10 : Int).toNat), .int (0 - (n : Int) * 10 ^ (10 : Int).toNat)])))
    have fz3 : Fz [p1, a] H _ := ((fz1.more (T := [p1, a]) (fun b hb => List.mem_cons_of_mem _ hb)).trans ((Fz.of s2).trans (.of s3))).trans (fz_upd (l := p1) (o := .lst ([V.int (-1), .int 0, .int 1, .int 60, .int 61, .int (-1 - (n : Int))] ++ [V.int ((n : Int) * 10 ^ (10 : Int).toNat), .int (0 - (n : Int) * 10 ^ (10 : Int).toNat)])) List.mem_cons_self)
    refine ⟨_, rfl, _, rfl, p1 :: S, a, 8, rfl, by decide, by decide, hat3, ow3, fun r H4 hr4 fz4 hat4 ow4 => ?_⟩
    have g4 := fz4 _ _ (fun z => na (List.mem_singleton.mp z)) upd_same
    have fin : ∀ z : Int, Q (.int z) H4 := fun z => q z H4 ((fz3.drop n0).trans fz4) (hat4.out haS) ow4.tail
    obtain ⟨z, hz⟩ : ∃ z : Int, ([V.int (-1), .int 0, .int 1, .int 60, .int 61, .int (-1 - (n : Int))] ++ [V.int ((n : Int) * 10 ^ (10 : Int).toNat), .int (0 - (n : Int) * 10 ^ (10 : Int).toNat)])[r]? = some (.int z) := by
      match r, hr4 with
      | 0, _ => exact ⟨_, rfl⟩
      | 1, _ => exact ⟨_, rfl⟩
      | 2, _ => exact ⟨_, rfl⟩
      | 3, _ => exact ⟨_, rfl⟩
      | 4, _ => exact ⟨_, rfl⟩
      | 5, _ => exact ⟨_, rfl⟩
      | 6, _ => exact ⟨_, rfl⟩
      | 7, _ => exact ⟨_, rfl⟩
    exact ⟨p1, _, _, .int z, rfl, rfl, .of g4, atI_nat hz, fin z⟩
abbrev s__law_mixed : Stmt := top 49
theorem sc__law_mixed : FnScope ["_law_hat_here", "_law_row_here", "_law_left", "_law_found", "_law_step"] ["_law_hat_here", "_law_row_here"] (defScope s__law_mixed) := ⟨rfl, rfl, rfl, by decide +kernel, rfl, by decide +kernel, by decide +kernel⟩
def spMixed : Sp := fun vs H Q _ => ∃ (S : List Addr) (a : Addr) (v : V) (l : List Spot), vs = [.ref a, v] ∧ HatAt K S H a ∧ Own S H ∧ At (Hd S H) eSpots v l ∧ l.length < 64 ∧ ∀ u m H', m.Perm l → At (Hd S H') eSpots u m → Fz [a] H H' → HatAt K S H' a → Own S H' → Q u H'
theorem ok__law_mixed (T : Tx K mg) : FnOk P w K mg base CX0 2 (He.ga K "_law_mixed") T.fd__law_mixed ["_law_hat_here", "_law_row_here"] (spMixed (K := K)) := by
  refine T.F__law_mixed.ok sc__law_mixed (fun vs H Q E h => ?_) (fun cdv A outer s H vs Q E hr h => ?_)
  · obtain ⟨S, a, v, l, rfl, _⟩ := h; rfl
  · obtain ⟨S, a, v, l, rfl, hat, ow, hv, hlen, q⟩ := h
    have haS := hat.own
    refine ⟨_, (pss_cons (ps_set (i := 2) sc__law_mixed.nd rfl (Or.inl rfl) (pe_callTy (k_listOf K rfl) rfl T.f_list (by decide +kernel) (pa_cons (pv 1) pa_nil)))
      (pss_cons (ps_set (i := 3) sc__law_mixed.nd rfl (Or.inl rfl) (pe_lst pa_nil))
      (pss_cons (ps_for PassesOwn.leaving rfl (pi_range1 (by rfl) T.f_range (pa_cons (pe_callB (k_len K rfl) rfl T.f_len PySem.boot_len (pa_cons (pv 1) pa_nil)) pa_nil)) (pg_name (i := 4) sc__law_mixed.nd rfl (Or.inl rfl))
      (pss_one (ps_expr (pe_bm PySem.F.plainAttrs_list PySem.F.slot_list_append PySem.F.type_list_append mt_append (pv 3) (pa_cons (pe_bm PySem.F.plainAttrs_list PySem.F.slot_list_pop PySem.F.type_list_pop mt_popAt (pv 2) (pa_cons (pe_call (ok__law_take T) (hr.mono (by decide)) rfl T.g__law_take T.F__law_take.kp (b__law_take T) .nil pass0 (pa_cons (pv 0) (pa_cons (pe_callB (k_len K rfl) rfl T.f_len PySem.boot_len (pa_cons (pv 2) pa_nil)) pa_nil))) pa_nil)) pa_nil)))))
      (pss_one (ps_ret (pv 3)))))), ?_⟩
    obtain ⟨pv, xv, rfl, hpv, hxv⟩ := id hv.list
    refine ⟨_, rfl, pv, xv, rfl, .inl (.of (Hd_some hpv).2), fun pl hpl => ?_⟩
    have s1 := same_up (o := .lst xv) hpl
    have g1 : upd H pl (.lst xv) pl = some (.lst xv) := upd_same
    have hat1 := hat.into s1 hpl
    have ow1 : Own (pl :: S) (upd H pl (.lst xv)) := own_in ow hpl
    have x1 : Ats (Hd (pl :: S) (upd H pl (.lst xv))) eSpot xv l := hxv.into s1 hpl
    have na1 := hat.ne hpl
    generalize upd H pl (.lst xv) = H1 at s1 g1 hat1 ow1 x1
    refine ⟨Nat.zero_le _, fun f hf => ?_⟩
    have s2 := same_up (o := .lst []) hf
    have g2 : upd H1 f (.lst []) f = some (.lst []) := upd_same
    have hat2 := hat1.into s2 hf
    have ow2 : Own (f :: pl :: S) (upd H1 f (.lst [])) := own_in ow1 hf
    have x2 : Ats (Hd (f :: pl :: S) (upd H1 f (.lst []))) eSpot xv l := x1.into s2 hf
    have na2 := hat1.ne hf
    have nfl : f ≠ pl := fun z => by rw [z, g1] at hf; cases hf
    have g1' := s2 _ _ g1
    generalize upd H1 f (.lst []) = H2 at s2 g2 hat2 ow2 x2 g1'
    have nf : H f = none := by
      cases z : H f with
      | none => rfl
      | some o => rw [s1 _ _ z] at hf; cases hf
    have ll := hxv.len
    refine ⟨_, rfl, pv, xv, rfl, .inl (.of ((s1.trans s2) _ _ (Hd_some hpv).2)), (xv.length : Int), rfl, by omega, by omega, ?_⟩
    have mem1 : f ∈ f :: pl :: S := List.mem_cons_self
    have mem2 : pl ∈ f :: pl :: S := List.mem_cons_of_mem _ List.mem_cons_self
    have mema : a ∈ f :: pl :: S := List.mem_cons_of_mem _ (List.mem_cons_of_mem _ haS)
    have kf : f ∉ [a] := fun z => na2 (List.mem_singleton.mp z)
    have kl : pl ∉ [a] := fun z => na1 (List.mem_singleton.mp z)
    refine for_range (lo := 0) (n := xv.length) (fun i σ H' => (∃ j : Option V, σ = [some (.ref a), some (.ref pv), some (.ref pl), some (.ref f), j]) ∧ Fz [f, pl, a] H2 H' ∧ HatAt K (f :: pl :: S) H' a ∧ Own (f :: pl :: S) H' ∧
        ∃ xs ys L F, H' pl = some (.lst xs) ∧ H' f = some (.lst ys) ∧ Ats (Hd (f :: pl :: S) H') eSpot xs L ∧ Ats (Hd (f :: pl :: S) H') eSpot ys F ∧ (F ++ L).Perm l ∧ F.length = i)
      ⟨⟨_, rfl⟩, .refl, hat2, ow2, xv, [], l, [], g1', g2, x2, .nil, .refl _, rfl⟩ (fun i σ H3 hi hP => ?_) (fun σ H3 hP => ?_)
    · obtain ⟨⟨j, rfl⟩, fz3, hat3, ow3, xs, ys, L, F, gl, gf, aL, aF, pm, hF⟩ := hP
      have pl1 := pm.length_eq
      rw [List.length_append] at pl1
      have lx := aL.len
      have ly := aF.len
      refine ⟨_, rfl, .inl ⟨rfl, ys, .of gf⟩, _, rfl, .inl ⟨rfl, xs, .of gl⟩, _, rfl, _, rfl, pl, xs, rfl, .inl (.of gl), f :: pl :: S, a, xs.length, rfl, by omega, by omega, hat3, ow3, fun r H4 hr4 fz4 hat4 ow4 => ?_⟩
      have gl4 := fz4 _ _ kl gl
      have gf4 := fz4 _ _ kf gf
      have aL4 := aL.fz (fz4.more (sub2 mema))
      have aF4 := aF.fz (fz4.more (sub2 mema))
      have hy : xs[r]? = some xs[r] := List.getElem?_eq_getElem hr4
      obtain ⟨y, hy2, ay⟩ := aL4.at hy
      refine ⟨pl, xs, r, r, xs[r], rfl, rfl, gl4, by omega, by omega, seqIndex_of (by omega) (by omega), hy, ?_⟩
      have gf5 : upd H4 pl (.lst (xs.eraseIdx r)) f = some (.lst ys) := by rw [upd_ne nfl]; exact gf4
      refine ⟨f, ys, xs[r], rfl, rfl, gf5, by rw [sizeLine_eq]; omega, ?_⟩
      have gl6 : upd (upd H4 pl (.lst (xs.eraseIdx r))) f (.lst (ys ++ [xs[r]])) pl = some (.lst (xs.eraseIdx r)) := by rw [upd_ne (fun z => nfl z.symm)]; exact upd_same
      refine ⟨⟨_, rfl⟩, ?_, (hat4.upd mem2 na1).upd mem1 na2, (ow4.kp .upd).kp .upd, xs.eraseIdx r, ys ++ [xs[r]], L.eraseIdx r, F ++ [y], gl6, upd_same, ((aL4.erase r).up1 mem2).up1 mem1, ((aF4.app (Ats.one ay)).up1 mem2).up1 mem1, erase_perm hy2 pm, by rw [List.length_append, hF]; rfl⟩
      exact ((fz3.trans (fz4.more fun b hb => List.mem_cons_of_mem _ (List.mem_cons_of_mem _ hb))).trans (fz_upd (List.mem_cons_of_mem _ List.mem_cons_self))).trans (fz_upd List.mem_cons_self)
    · obtain ⟨⟨j, rfl⟩, fz3, hat3, ow3, xs, ys, L, F, gl, gf, aL, aF, pm, hF⟩ := hP
      have pl1 := pm.length_eq
      rw [List.length_append] at pl1
      have hL : L = [] := List.eq_nil_of_length_eq_zero (by omega)
      subst hL
      rw [List.append_nil] at pm
      have npS : f ∉ S := ow.new nf
      refine ⟨_, rfl, q _ F H3 pm (.of_list (by rw [Hd_at npS]; exact gf) aF.out.out) ?_ (hat3.out (List.mem_cons_of_mem _ haS) |>.out haS) ow3.tail.tail⟩
      exact (((Fz.of (s1.trans s2)).trans fz3).drop nf).drop hpl
end
end Pw
end
section
set_option linter.all false
set_option maxRecDepth 100000
set_option maxHeartbeats 2000000
/-! Law 4: names, ends, words. -/
namespace Pw
open PySem PySem.Spec PyProof.Rows L2
def tailL : List V := [.str "", .str "x", .str "pear", .str "aaaaaaa", .str "qzqz", .str "bb", .str "tree"]
theorem tail_at {r : Nat} (h : r < 7) : ∃ x : W, tailL[r]? = some (.str (tx x)) ∧ x.length ≤ 7 ∧ ∀ c ∈ x, c ∈ letters := by
  have key : ∀ z : Str, z.cps.toList.length ≤ 7 → (∀ c ∈ z.cps.toList, c ∈ letters) → ∃ x : W, (some (V.str z)) = some (.str (tx x)) ∧ x.length ≤ 7 ∧ ∀ c ∈ x, c ∈ letters := fun z h1 h2 => ⟨z.cps.toList, by rw [tx_of], h1, h2⟩
  match r, h with
  | 0, _ => exact key _ (by decide +kernel) (by decide +kernel)
  | 1, _ => exact key _ (by decide +kernel) (by decide +kernel)
  | 2, _ => exact key _ (by decide +kernel) (by decide +kernel)
  | 3, _ => exact key _ (by decide +kernel) (by decide +kernel)
  | 4, _ => exact key _ (by decide +kernel) (by decide +kernel)
  | 5, _ => exact key _ (by decide +kernel) (by decide +kernel)
  | 6, _ => exact key _ (by decide +kernel) (by decide +kernel)
def stepL : List V := [.int 1, .int 3, .int 5, .int 7, .int 9, .int 11]
theorem step_at {r : Nat} (h : r < 6) : ∃ z : Nat, stepL[r]? = some (.int (z : Nat)) ∧ z ≤ 11 := by
  match r, h with
  | 0, _ => exact ⟨1, rfl, by decide⟩
  | 1, _ => exact ⟨3, rfl, by decide⟩
  | 2, _ => exact ⟨5, rfl, by decide⟩
  | 3, _ => exact ⟨7, rfl, by decide⟩
  | 4, _ => exact ⟨9, rfl, by decide⟩
  | 5, _ => exact ⟨11, rfl, by decide⟩
theorem letter_ok {c : Nat} (h : c ∈ letters) : c < 1114112 := by
  have : ∀ c ∈ letters, c < 1114112 := by decide +kernel
  exact this c h
theorem name_mk {x : W} {c i : Nat} (h1 : x.length ≤ 7) (h2 : ∀ c ∈ x, c ∈ letters) (h3 : c ∈ letters) : nameB (x.take i ++ [c] ++ x.drop i) = true ∧ okW (x.take i ++ [c] ++ x.drop i) := by
  have hl : (x.take i ++ [c] ++ x.drop i).length = x.length + 1 := by
    rw [List.length_append, List.length_append, List.length_take, List.length_drop, List.length_singleton]
    omega
  have hm : ∀ d ∈ x.take i ++ [c] ++ x.drop i, d ∈ letters := fun d hd => by
    rcases List.mem_append.mp hd with hd | hd
    · rcases List.mem_append.mp hd with hd | hd
      · exact h2 d (List.mem_of_mem_take hd)
      · rw [List.mem_singleton.mp hd]; exact h3
    · exact h2 d (List.mem_of_mem_drop hd)
  refine ⟨?_, by omega, fun d hd => letter_ok (hm d hd)⟩
  unfold nameB
  rw [hl, decide_eq_true (show 0 < x.length + 1 by omega), decide_eq_true (show x.length + 1 ≤ 8 by omega), Bool.and_self, Bool.true_and, List.all_eq_true]
  exact fun d hd => decide_eq_true (hm d hd)
theorem name_short {x : W} (h : nameB x = true) : x.length ≤ 8 := by
  unfold nameB at h
  exact of_decide_eq_true (Bool.and_eq_true_iff.mp (Bool.and_eq_true_iff.mp h).1).2
theorem name_ok {x : W} (h : nameB x = true) : okW x := by
  refine ⟨by have := name_short h; omega, fun c hc => letter_ok ?_⟩
  unfold nameB at h
  exact of_decide_eq_true (List.all_eq_true.mp (Bool.and_eq_true_iff.mp h).2 c hc)
section
variable {P : Program} {w : World} {K : PySem.W.Frag} {mg : Str → Option Value} {base : Heap}
abbrev s__law_names : Stmt := top 50
theorem sc__law_names : FnScope ["_law_hat_here", "_law_many", "_law_tail", "_law_at", "_law_start", "_law_step", "_law_found", "_law_k", "_law_sign"] ["_law_hat_here", "_law_many"] (defScope s__law_names) := ⟨rfl, rfl, rfl, by decide +kernel, rfl, by decide +kernel, by decide +kernel⟩
def spNames : Sp := fun vs H Q _ => ∃ (S : List Addr) (a : Addr) (m : Nat), vs = [.ref a, .int m] ∧ m ≤ 3 ∧ HatAt K S H a ∧ Own S H ∧ ∀ u l H', l.length = m → (∀ n ∈ l, nameB n = true) → At (Hd S H') (eList eStr) u l → Fz [a] H H' → HatAt K S H' a → Own S H' → Q u H'
theorem ok__law_names (T : Tx K mg) : FnOk P w K mg base CX0 2 (He.ga K "_law_names") T.fd__law_names ["_law_hat_here", "_law_many"] (spNames (K := K)) := by
  refine T.F__law_names.ok sc__law_names (fun vs H Q E h => ?_) (fun cdv A outer s H vs Q E hr h => ?_)
  · obtain ⟨S, a, m, rfl, _⟩ := h; rfl
  · obtain ⟨S, a, m, rfl, hm, hat, ow, q⟩ := h
    have haS := hat.own
    refine ⟨_, (pss_cons (ps_set (i := 2) sc__law_names.nd rfl (Or.inl rfl) (pe_ix (k_ixL K rfl) (pe_lst (pa_cons pe_str (pa_cons pe_str (pa_cons pe_str (pa_cons pe_str (pa_cons pe_str (pa_cons pe_str (pa_cons pe_str pa_nil)))))))) (pe_call (ok__law_take T) (hr.mono (by decide)) rfl T.g__law_take T.F__law_take.kp (b__law_take T) .nil pass0 (pa_cons (pv 0) (pa_cons pe_int pa_nil))) (fun _ _ => rfl)))
      (pss_cons (ps_set (i := 3) sc__law_names.nd rfl (Or.inl rfl) (pe_call (ok__law_take T) (hr.mono (by decide)) rfl T.g__law_take T.F__law_take.kp (b__law_take T) .nil pass0 (pa_cons (pv 0) (pa_cons (pe_op op_add (pe_callB call_len_str rfl T.f_len PySem.boot_len (pa_cons (pv 2) pa_nil)) pe_int) pa_nil))))
      (pss_cons (ps_set (i := 4) sc__law_names.nd rfl (Or.inl rfl) (pe_call (ok__law_take T) (hr.mono (by decide)) rfl T.g__law_take T.F__law_take.kp (b__law_take T) .nil pass0 (pa_cons (pv 0) (pa_cons pe_int pa_nil))))
      (pss_cons (ps_set (i := 5) sc__law_names.nd rfl (Or.inl rfl) (pe_ix (k_ixL K rfl) (pe_lst (pa_cons pe_int (pa_cons pe_int (pa_cons pe_int (pa_cons pe_int (pa_cons pe_int (pa_cons pe_int pa_nil))))))) (pe_call (ok__law_take T) (hr.mono (by decide)) rfl T.g__law_take T.F__law_take.kp (b__law_take T) .nil pass0 (pa_cons (pv 0) (pa_cons pe_int pa_nil))) (fun _ _ => rfl)))
      (pss_cons (ps_set (i := 6) sc__law_names.nd rfl (Or.inl rfl) (pe_lst pa_nil))
      (pss_cons (ps_for PassesOwn.leaving rfl (pi_range1 (by rfl) T.f_range (pa_cons (pv 1) pa_nil)) (pg_name (i := 7) sc__law_names.nd rfl (Or.inl rfl))
      (pss_cons (ps_set (i := 8) sc__law_names.nd rfl (Or.inl rfl) (pe_ix ix_str pe_str (pe_op op_mod (pe_op op_add (pv 4) (pe_op op_mul (pv 5) (pv 7))) pe_int) (fun _ _ => rfl)))
      (pss_one (ps_expr (pe_bm PySem.F.plainAttrs_list PySem.F.slot_list_append PySem.F.type_list_append mt_append (pv 6) (pa_cons (pe_op op_add_str (pe_op op_add_str (pe_slice sl_str (pv 2) po_none (po_some (pv 3))) (pv 8)) (pe_slice sl_str (pv 2) (po_some (pv 3)) po_none)) pa_nil))))))
      (pss_one (ps_ret (pv 6))))))))), ?_⟩
    refine ⟨by show 7 ≤ sizeLine; rw [sizeLine_eq]; decide, fun p1 hp1 => ?_⟩
    have s1 := same_up (o := .lst tailL) hp1
    have g1 : upd H p1 (.lst tailL) p1 = some (.lst tailL) := upd_same
    have na1 := hat.ne hp1
    have hat1 := hat.same s1
    have ow1 := ow.same s1
    refine ⟨_, rfl, S, a, 7, rfl, by decide, by decide, hat1, ow1, fun r H2 hr2 fz2 hat2 ow2 => ?_⟩
    have gg2 := fz2 _ _ (fun z => na1 (List.mem_singleton.mp z)) g1
    obtain ⟨x, hx, lx, ax⟩ := tail_at hr2
    have okx : okW x := ⟨by omega, fun c hc => letter_ok (ax c hc)⟩
    refine ⟨p1, tailL, r, _, rfl, rfl, .of gg2, atI_nat hx, ?_⟩
    have fz02 : Fz [a] H H2 := (Fz.of s1).trans fz2
    refine ⟨_, rfl, _, rfl, tx x, rfl, okW_line okx, _, _, rfl, rfl, S, a, x.length + 1, by rw [tx_len]; rfl, by omega, by omega, hat2, ow2, fun at' H3 hr3 fz3 hat3 ow3 => ?_⟩
    refine ⟨_, rfl, S, a, 26, rfl, by decide, by decide, hat3, ow3, fun st H4 hr4 fz4 hat4 ow4 => ?_⟩
    have fz04 := (fz02.trans fz3).trans fz4
    refine ⟨by show 6 ≤ sizeLine; rw [sizeLine_eq]; decide, fun p2 hp2 => ?_⟩
    have s5 := same_up (o := .lst stepL) hp2
    have g5 : upd H4 p2 (.lst stepL) p2 = some (.lst stepL) := upd_same
    have na2 := hat4.ne hp2
    refine ⟨_, rfl, S, a, 6, rfl, by decide, by decide, hat4.same s5, ow4.same s5, fun r6 H6 hr6 fz6 hat6 ow6 => ?_⟩
    have gg6 := fz6 _ _ (fun z => na2 (List.mem_singleton.mp z)) g5
    obtain ⟨sp, hsp, lsp⟩ := step_at hr6
    refine ⟨p2, stepL, r6, _, rfl, rfl, .of gg6, atI_nat hsp, ?_⟩
    have fz06 := (fz04.trans (.of s5)).trans fz6
    refine ⟨Nat.zero_le _, fun f hf => ?_⟩
    have s7 := same_up (o := .lst []) hf
    have g7 : upd H6 f (.lst []) f = some (.lst []) := upd_same
    have hat7 := hat6.into s7 hf
    have ow7 : Own (f :: S) (upd H6 f (.lst [])) := own_in ow6 hf
    have naf := hat6.ne hf
    have nfS : f ∉ S := ow6.new hf
    have nf : H f = none := by
      cases z : H f with
      | none => rfl
      | some o =>
        by_cases y : f = a
        · exact absurd y naf
        · rw [fz06 _ _ (fun x => y (List.mem_singleton.mp x)) z] at hf; cases hf
    have fz07 := fz06.trans (.of s7)
    generalize upd H6 f (.lst []) = H7 at s7 g7 hat7 ow7 fz07
    refine ⟨_, rfl, (m : Int), rfl, by omega, by omega, ?_⟩
    refine for_range (lo := 0) (n := m) (fun i σ H' => (∃ j1 j2 : Option V, σ = [some (.ref a), some (.int m), some (.str (tx x)), some (.int (at' : Nat)), some (.int (st : Nat)), some (.int (sp : Nat)), some (.ref f), j1, j2]) ∧ Fz [f] H7 H' ∧ HatAt K (f :: S) H' a ∧ Own (f :: S) H' ∧
        ∃ ys F, H' f = some (.lst ys) ∧ Ats (Hd (f :: S) H') eStr ys F ∧ F.length = i ∧ ∀ n ∈ F, nameB n = true)
      ⟨⟨_, _, rfl⟩, .refl, hat7, ow7, [], [], g7, .nil, rfl, fun n h => nomatch h⟩ (fun i σ H8 hi hP => ?_) (fun σ H8 hP => ?_)
    · obtain ⟨⟨j1, j2, rfl⟩, fz8, hat8, ow8, ys, F, gf, aF, hF, good⟩ := hP
      have ly := aF.len
      obtain ⟨c, hc⟩ : ∃ c, c = (st + sp * i) % 26 := ⟨_, rfl⟩
      have hc26 : c < 26 := by rw [hc]; exact Nat.mod_lt _ (by decide)
      have ec : ((st : Int) + (sp : Int) * ((0 : Int) + ((i : Nat) : Int))) % 26 = ((c : Nat) : Int) := by
        rw [hc, Int.zero_add]
        simp
      have hl26 : c < letters.length := hc26
      have cl : letters[c] ∈ letters := List.getElem_mem hl26
      generalize hd : letters[c] = d at cl
      refine ⟨_, rfl, _, rfl, _, rfl, _, _, rfl, rfl, .inl ⟨by omega, by omega⟩, _, _, rfl, rfl, _, _, rfl, rfl, (by show (0 : Int) < 26; decide), _, _, d, rfl, rfl, by rw [sizeLine_eq]; decide +kernel, ?_, ?_⟩
      · show atI _ (((st : Int) + (sp : Int) * ((0 : Int) + ((i : Nat) : Int))) % 26) = _
        rw [ec, letters_eq]
        exact atI_nat (by rw [List.getElem?_eq_getElem hl26, hd])
      · have okd : okW [d] := ⟨(show 1 ≤ 1000 by decide), fun e he => by rw [List.mem_singleton.mp he]; exact letter_ok cl⟩
        refine ⟨_, rfl, .inl ⟨rfl, ys, .of gf⟩, _, rfl, _, rfl, _, rfl, _, rfl, okW_line okx, _, rfl, ?_⟩
        rw [cut_hi]
        refine ⟨tx (x.take at'), tx ([d]), rfl, rfl, (by rw [tx_len, tx_len, sizeLine_eq]; have h : (x.take at').length + ([d]).length ≤ 2000 := (by rw [List.length_take, List.length_singleton]; omega); exact Nat.le_trans h (by decide)), ?_⟩
        rw [add_tx]
        refine ⟨_, rfl, _, rfl, _, rfl, _, rfl, okW_line okx, ?_⟩
        rw [cut_lo]
        refine ⟨tx (x.take at' ++ [d]), tx (x.drop at'), rfl, rfl, (by rw [tx_len, tx_len, sizeLine_eq]; have h : (x.take at' ++ [d]).length + (x.drop at').length ≤ 2000 := (by rw [List.length_append, List.length_take, List.length_drop, List.length_singleton]; omega); exact Nat.le_trans h (by decide)), ?_⟩
        rw [add_tx]
        obtain ⟨n1, n2⟩ := name_mk (i := at') lx ax cl
        refine ⟨f, ys, _, rfl, rfl, gf, by rw [sizeLine_eq]; omega, ⟨_, _, rfl⟩, fz8.trans (fz_upd (List.mem_singleton.mpr rfl)), hat8.upd List.mem_cons_self naf, ow8.kp .upd, _, F ++ [x.take at' ++ [d] ++ x.drop at'], upd_same, (aF.app (Ats.one (.of_str n2))).up1 List.mem_cons_self, by rw [List.length_append, hF]; rfl, fun n hn => ?_⟩
        rcases List.mem_append.mp hn with hn | hn
        · exact good n hn
        · rw [List.mem_singleton.mp hn]; exact n1
    · obtain ⟨⟨j1, j2, rfl⟩, fz8, hat8, ow8, ys, F, gf, aF, hF, good⟩ := hP
      refine ⟨_, rfl, q _ F H8 hF good (.of_list (by rw [Hd_at nfS]; exact gf) aF.out) ?_ (hat8.out haS) ow8.tail⟩
      exact ((fz07.more (T := [f, a]) (fun b hb => List.mem_cons_of_mem _ hb)).trans (fz8.more fun b hb => by rw [List.mem_singleton.mp hb]; exact List.mem_cons_self)).drop nf
abbrev s__law_ends : Stmt := top 51
theorem sc__law_ends : FnScope ["_law_stood", "_law_found", "_law_word", "_law_sign"] ["_law_stood"] (defScope s__law_ends) := ⟨rfl, rfl, rfl, by decide +kernel, rfl, by decide +kernel, by decide +kernel⟩
def endG (st : List W) (x : W) : List W := (([[108], [114], [117]] : List W).filter fun g => !decide (x ++ g ∈ st)).map fun g => x ++ g
def endsU (st : List W) : List W := st.flatMap (endG st)
theorem endG_len (st : List W) : ∀ l : List W, (l.flatMap (endG st)).length ≤ 3 * l.length
  | [] => Nat.zero_le _
  | x :: l => by
    have ih := endG_len st l
    have h : (endG st x).length ≤ 3 := by
      unfold endG
      rw [List.length_map]
      exact List.length_filter_le _ _
    rw [List.flatMap_cons, List.length_append, List.length_cons]
    omega
theorem ends_at {G : Hp} : Ats G eStr [V.str "l", .str "r", .str "u"] ([[108], [114], [117]] : List W) := by
  have e1 : ("l" : Str) = tx [108] := by decide +kernel
  have e2 : ("r" : Str) = tx [114] := by decide +kernel
  have e3 : ("u" : Str) = tx [117] := by decide +kernel
  rw [e1, e2, e3]
  have o : ∀ c : Nat, c < 1114112 → okW [c] := fun c h => ⟨(show 1 ≤ 1000 by decide), fun d hd => by rw [List.mem_singleton.mp hd]; exact h⟩
  exact .cons (.of_str (o _ (by decide))) (.cons (.of_str (o _ (by decide))) (.cons (.of_str (o _ (by decide))) .nil))
def spEnds : Sp := fun vs H Q _ => ∃ (S : List Addr) (v : V) (l : List W), vs = [v] ∧ At (Hd S H) (eList eStr) v l ∧ Own S H ∧ l.length ≤ 64 ∧ (∀ x ∈ l, x.length < 16) ∧ (∀ x ∈ l, wordB x = true) ∧ ∀ u H', Same H H' → At (Hd S H') (eList eStr) u (srt (endsU l)) → Q u H'
theorem ok__law_ends (T : Tx K mg) : FnOk P w K mg base CX0 1 (He.ga K "_law_ends") T.fd__law_ends ["_law_stood"] spEnds := by
  refine T.F__law_ends.ok sc__law_ends (fun vs H Q E h => ?_) (fun cdv A outer s H vs Q E hr h => ?_)
  · obtain ⟨S, v, l, rfl, _⟩ := h; rfl
  · obtain ⟨S, v, l, rfl, hv, ow, hlen, h16, hwb, q⟩ := h
    have hu65 := hu65_of hr
    refine ⟨_, (pss_cons (ps_set (i := 1) sc__law_ends.nd rfl (Or.inl rfl) (pe_lst pa_nil))
      (pss_cons (ps_for PassesOwn.leaving rfl (k_piL K rfl (pv 0)) (pg_name (i := 2) sc__law_ends.nd rfl (Or.inr rfl))
      (pss_one (ps_if (pt_cmpR op_lt (pe_callB call_len_str rfl T.f_len PySem.boot_len (pa_cons (pv 2) pa_nil)) pe_int (nomark _)) (pss_one (ps_expr (pe_bm PySem.F.plainAttrs_list PySem.F.slot_list_extend PySem.F.type_list_extend mt_extend (pv 1) (pa_cons (pe_lc (own := [("_law_sign", 3)]) rfl sc__law_ends.nd (k_piL K rfl (pe_lst (pa_cons pe_str (pa_cons pe_str (pa_cons pe_str pa_nil))))) (blkOk_by (own := [("_law_sign", 3)]) (N := ["_law_stood", "_law_found", "_law_word", "_law_sign"]) (sc := (defScope s__law_ends)) (by decide +kernel)) (fun _ _ _ _ _ => (pg_name (i := 3) sc__law_ends.nd rfl (Or.inl rfl))) (fun _ _ _ _ _ => (pts_one (pt_cmpR (k_notIn K rfl hu65) (pe_op op_add_str (pv 2) (pv 3)) (pv 0) (by rfl)))) (fun _ _ _ _ _ => (pe_op op_add_str (pv 2) (pv 3)))) pa_nil)))) pss_nil)))
      (pss_one (ps_ret (pe_callB (cr_sortA sb_str (hu := hu65)) rfl T.f_sorted (by decide +kernel) (pa_cons (pv 1) pa_nil)))))), ?_⟩
    obtain ⟨pv, xv, rfl, hpv, hxv⟩ := id hv.list
    refine ⟨Nat.zero_le _, fun f hf => ?_⟩
    have s1 := same_up (o := .lst []) hf
    have g1 : upd H f (.lst []) f = some (.lst []) := upd_same
    have ow1 : Own (f :: S) (upd H f (.lst [])) := own_in ow hf
    have nfS : f ∉ S := ow.new hf
    have hv1 : At (Hd (f :: S) (upd H f (.lst []))) (eList eStr) (.ref pv) l := hv.into s1 hf
    generalize upd H f (.lst []) = H1 at s1 g1 ow1 hv1
    obtain ⟨pv', xv', e', hpv1, hxv1⟩ := id hv1.list
    cases e'
    refine ⟨_, rfl, pv, rfl, ⟨_, .of (Hd_some hpv1).2⟩, ?_⟩
    refine forL (A := eStr) (S := f :: S) (l := l) hpv1 hxv1 (fun i σ H' => (∃ j1 j2 : Option V, σ = [some (.ref pv), some (.ref f), j1, j2]) ∧ Fz [f] H1 H' ∧ Own (f :: S) H' ∧ ∃ ys, H' f = some (.lst ys) ∧ Ats (Hd (f :: S) H') eStr ys ((l.take i).flatMap (endG l)))
      ⟨⟨_, _, rfl⟩, .refl, ow1, [], g1, .nil⟩ (fun i σ H' h => h.2.1.more sub1) (fun i x v σ H3 hi hP av => ?_) (fun σ H3 hP => ?_)
    · obtain ⟨⟨j1, j2, rfl⟩, fz3, ow3, ys, gf, aF⟩ := hP
      obtain rfl := av.str
      have okx := av.2
      have xm := List.mem_of_getElem? hi
      have x16 := h16 x xm
      have hv3 : At (Hd (f :: S) H3) (eList eStr) (.ref pv) l := hv1.fz (fz3.more sub1)
      have ly := aF.len
      have lf := endG_len l (l.take i)
      have lt : (l.take i).length ≤ 64 := Nat.le_trans (List.length_take_le' _ _) hlen
      refine ⟨_, rfl, _, rfl, okW_line okx, _, _, rfl, rfl, _, rfl, ite2 (fun e => ?_) fun e => ?_⟩
      · refine ⟨_, rfl, .inl ⟨rfl, ys, .of gf⟩, (by show 3 ≤ sizeLine; rw [sizeLine_eq]; decide), fun pc hpc => ?_⟩
        have s4 := same_up (o := .lst [V.str "l", .str "r", .str "u"]) hpc
        have hpc4 : Hd (f :: S) (upd H3 pc (.lst [V.str "l", .str "r", .str "u"])) pc = some (.lst [V.str "l", .str "r", .str "u"]) := hd_new ow3 hpc
        have ax4 : Ats (Hd (f :: S) (upd H3 pc (.lst [V.str "l", .str "r", .str "u"]))) eStr [V.str "l", .str "r", .str "u"] ([[108], [114], [117]] : List W) := ends_at
        have ow4 := ow3.same s4
        generalize upd H3 pc (.lst [V.str "l", .str "r", .str "u"]) = H4 at s4 hpc4 ax4 ow4
        refine ⟨pc, rfl, ⟨_, .of (Hd_some hpc4).2⟩, fun D hD => ?_⟩
        refine lc_at (A := eStr) (B := eStr) (S := f :: S) (fun g => !decide (x ++ g ∈ l)) (fun g => x ++ g) ow4 hD hpc4 ax4 (by rw [sizeLine_eq]; decide) (fun g hg v H5 s5 wD ag NF NT k1 k2 => ?_) (fun H5 s5 a5 => ?_)
        · obtain rfl := ag.str
          have okg := ag.2
          have gl : g.length = 1 := by
            rcases List.mem_cons.mp hg with rfl | hg
            · rfl
            rcases List.mem_cons.mp hg with rfl | hg
            · rfl
            rw [List.mem_singleton.mp hg]; rfl
          have okxg : okW (x ++ g) := ⟨by rw [List.length_append]; omega, fun c hc => (List.mem_append.mp hc).elim (okx.2 c) (okg.2 c)⟩
          have lxg : (tx x).length + (tx g).length ≤ sizeLine := by rw [tx_len, tx_len, sizeLine_eq]; omega
          refine ⟨rfl, _, rfl, _, rfl, tx x, tx g, rfl, rfl, lxg, _, rfl, ?_⟩
          rw [add_tx]
          refine notin_at (A := eStr) (.of_str okxg) ((hv3.up s4).up s5) hd_to ⟨_, rfl, ite2 (fun e2 => ?_) fun e2 => ?_⟩
          · refine ⟨_, rfl, _, rfl, tx x, tx g, rfl, rfl, lxg, ?_⟩
            rw [add_tx]
            exact k2 (by simpa using e2) _ _ (.refl _) (.of_str okxg)
          · exact k1 (by simpa using e2) _ (.refl _)
        · obtain ⟨pD, zs, eD, hpD, hzs⟩ := id a5.list
          injection eD with eD
          subst eD
          have gf5 := s5 _ _ (s4 _ _ gf)
          have lz := hzs.len
          rw [List.length_map] at lz
          have lz2 := List.length_filter_le (fun g => !decide (x ++ g ∈ l)) ([[108], [114], [117]] : List W)
          have lz3 : ([[108], [114], [117]] : List W).length = 3 := rfl
          refine ⟨f, D, ys, zs, rfl, rfl, gf5, (Hd_some hpD).2, by rw [sizeLine_eq]; omega, ⟨_, _, rfl⟩, ((fz3.trans (.of s4)).trans (.of s5)).trans (fz_upd (List.mem_singleton.mpr rfl)), ((ow3.same s4).same s5).kp .upd, _, upd_same, ?_⟩
          rw [take_step hi, List.flatMap_append, List.flatMap_singleton]
          exact (((aF.up s4).up s5).app hzs).up1 List.mem_cons_self
      · exact absurd (decide_eq_true (by rw [tx_len]; omega)) e
    · obtain ⟨⟨j1, j2, rfl⟩, fz3, ow3, ys, gf, aF⟩ := hP
      rw [List.take_length] at aF
      refine ⟨_, rfl, S, _, endsU l, rfl, .of_list (by rw [Hd_at nfS]; exact gf) aF.out, ow3.tail, fun p xs hp ap => ?_⟩
      refine q _ _ ?_ ap
      intro b o e
      have nb : b ≠ f := fun z => by rw [z, hf] at e; cases e
      exact same_up hp _ _ (fz3 _ _ (fun z => nb (List.mem_singleton.mp z)) (s1 _ _ e))
end
end Pw
end
section
set_option linter.all false
set_option maxRecDepth 100000
set_option maxHeartbeats 2000000
/-! Law 5: words. -/
namespace Pw
open PySem PySem.Spec PyProof.Rows L2
/-- what follows a statement, by what it stands for -/
theorem tseq_cut {A B : TS} {D : Ends} {σ : L2.St} {H : Hp} (Z : (L2.St → Hp → Prop) → Prop) (hZ : Z (B D)) (h : ∀ N, Z N → A { D with nx := N } σ H) : tSeq A B D σ H := h _ hZ
/-- words, nothing without what is beneath it, none longer than n -/
structure CloW (F : List W) (n : Nat) : Prop where
  root : [] ∈ F
  wb : ∀ x ∈ F, wordB x = true
  clo : ∀ x ∈ F, x ≠ [] → x.dropLast ∈ F
  len : ∀ x ∈ F, x.length ≤ n
theorem longest : ∀ {F : List W}, F ≠ [] → ∃ x ∈ F, ∀ y ∈ F, y.length ≤ x.length
  | [], h => absurd rfl h
  | [x], _ => ⟨x, List.mem_cons_self, fun y hy => by rw [List.mem_singleton.mp hy]; exact Nat.le_refl _⟩
  | x :: z :: F, _ => by
    obtain ⟨m, hm, h⟩ := longest (F := z :: F) (fun e => nomatch e)
    rcases Nat.le_total m.length x.length with c | c
    · exact ⟨x, List.mem_cons_self, fun y hy => (List.mem_cons.mp hy).elim (fun e => by rw [e]; exact Nat.le_refl _) fun hy => Nat.le_trans (h y hy) c⟩
    · exact ⟨m, List.mem_cons_of_mem _ hm, fun y hy => (List.mem_cons.mp hy).elim (fun e => by rw [e]; exact c) fun hy => h y hy⟩
theorem mem_ends {F : List W} {e : W} : e ∈ endsU F ↔ ∃ x ∈ F, ∃ c : Nat, (c = 108 ∨ c = 114 ∨ c = 117) ∧ e = x ++ [c] ∧ e ∉ F := by
  unfold endsU endG
  rw [List.mem_flatMap]
  constructor
  · rintro ⟨x, hx, h⟩
    obtain ⟨g, hg, rfl⟩ := List.mem_map.mp h
    obtain ⟨h1, h2⟩ := List.mem_filter.mp hg
    have h3 : x ++ g ∉ F := by simpa using h2
    rcases List.mem_cons.mp h1 with rfl | h1
    · exact ⟨x, hx, 108, .inl rfl, rfl, h3⟩
    rcases List.mem_cons.mp h1 with rfl | h1
    · exact ⟨x, hx, 114, .inr (.inl rfl), rfl, h3⟩
    rw [List.mem_singleton.mp h1] at h3 ⊢
    exact ⟨x, hx, 117, .inr (.inr rfl), rfl, h3⟩
  · rintro ⟨x, hx, c, hc, rfl, h⟩
    refine ⟨x, hx, List.mem_map.mpr ⟨[c], List.mem_filter.mpr ⟨?_, by simpa using h⟩, rfl⟩⟩
    rcases hc with rfl | rfl | rfl <;> simp
theorem ends_ne {F : List W} (h : F ≠ []) : endsU F ≠ [] := by
  obtain ⟨x, hx, m⟩ := longest h
  have : x ++ [108] ∈ endsU F := mem_ends.mpr ⟨x, hx, 108, .inl rfl, rfl, fun z => by
    have := m _ z
    rw [List.length_append] at this
    have h1 : ([108] : W).length = 1 := rfl
    omega⟩
  intro z
  rw [z] at this; cases this
theorem word_more {x : W} {c : Nat} (h : wordB x = true) (hl : x.length < 16) (hc : c = 108 ∨ c = 114 ∨ c = 117) : wordB (x ++ [c]) = true := by
  unfold wordB at h ⊢
  obtain ⟨_, h2⟩ := Bool.and_eq_true_iff.mp h
  rw [Bool.and_eq_true_iff, decide_eq_true_iff, List.length_append, List.all_append, h2, Bool.true_and]
  refine ⟨hl, ?_⟩
  rcases hc with rfl | rfl | rfl <;> decide +kernel
theorem word_ok {x : W} (h : wordB x = true) : okW x := by
  unfold wordB at h
  obtain ⟨h1, h2⟩ := Bool.and_eq_true_iff.mp h
  refine ⟨by have := of_decide_eq_true h1; omega, fun c hc => ?_⟩
  have h3 := of_decide_eq_true (List.all_eq_true.mp h2 c hc)
  have : ∀ d ∈ signs, d < 1114112 := by decide +kernel
  exact this c h3
theorem CloW.more {F : List W} {n : Nat} {e : W} (h : CloW F n) (hn : n < 16) (he : e ∈ endsU F) : CloW (F ++ [e]) (n + 1) := by
  obtain ⟨x, hx, c, hc, rfl, h3⟩ := mem_ends.mp he
  have hl := h.len x hx
  refine ⟨List.mem_append_left _ h.root, fun y hy => ?_, fun y hy hne => ?_, fun y hy => ?_⟩
  · rcases List.mem_append.mp hy with hy | hy
    · exact h.wb y hy
    · rw [List.mem_singleton.mp hy]; exact word_more (h.wb x hx) (by omega) hc
  · rcases List.mem_append.mp hy with hy | hy
    · exact List.mem_append_left _ (h.clo y hy hne)
    · rw [List.mem_singleton.mp hy, List.dropLast_concat]; exact List.mem_append_left _ hx
  · rcases List.mem_append.mp hy with hy | hy
    · have := h.len y hy; omega
    · rw [List.mem_singleton.mp hy, List.length_append, List.length_singleton]; omega
theorem CloW.srt {F : List W} {n : Nat} (h : CloW F n) : CloW (Pw.srt F) n := ⟨mem_srt.mpr h.root, fun x hx => h.wb x (mem_srt.mp hx), fun x hx hne => mem_srt.mpr (h.clo x (mem_srt.mp hx) hne), fun x hx => h.len x (mem_srt.mp hx)⟩
theorem clo_one : CloW [[]] 0 := ⟨List.mem_cons_self, fun x hx => by rw [List.mem_singleton.mp hx]; decide, fun x hx hne => absurd (List.mem_singleton.mp hx) hne, fun x hx => by rw [List.mem_singleton.mp hx]; exact Nat.le_refl _⟩
abbrev strV (F : List W) : List V := F.map fun x => V.str (tx x)
section
variable {P : Program} {w : World} {K : PySem.W.Frag} {mg : Str → Option Value} {base : Heap}
abbrev s__law_words : Stmt := top 52
theorem sc__law_words : FnScope ["_law_hat_here", "_law_many", "_law_found", "_law_lean", "_law_k", "_law_some", "_law_word", "_law_one"] ["_law_hat_here", "_law_many"] (defScope s__law_words) := ⟨rfl, rfl, rfl, by decide +kernel, rfl, by decide +kernel, by decide +kernel⟩
def spWords : Sp := fun vs H Q _ => ∃ (S : List Addr) (a : Addr) (m : Nat), vs = [.ref a, .int m] ∧ m ≤ 7 ∧ HatAt K S H a ∧ Own S H ∧ ∀ u F H', F.length = m + 1 → CloW F m → At (Hd S H') (eList eStr) u F → Fz [a] H H' → HatAt K S H' a → Own S H' → Q u H'
theorem ok__law_words (T : Tx K mg) : FnOk P w K mg base CX0 2 (He.ga K "_law_words") T.fd__law_words ["_law_hat_here", "_law_many"] (spWords (K := K)) := by
  refine T.F__law_words.ok sc__law_words (fun vs H Q E h => ?_) (fun cdv A outer s H vs Q E hr h => ?_)
  · obtain ⟨S, a, m, rfl, _⟩ := h; rfl
  · obtain ⟨S, a, m, rfl, hm, hat, ow, q⟩ := h
    have haS := hat.own
    have hu65 := hu65_of hr
    refine ⟨_, (pss_cons (ps_set (i := 2) sc__law_words.nd rfl (Or.inl rfl) (pe_lst (pa_cons pe_str pa_nil)))
      (pss_cons (ps_set (i := 3) sc__law_words.nd rfl (Or.inl rfl) (pe_call (ok__law_take T) (hr.mono (by decide)) rfl T.g__law_take T.F__law_take.kp (b__law_take T) .nil pass0 (pa_cons (pv 0) (pa_cons pe_int pa_nil))))
      (pss_cons (ps_for PassesOwn.leaving rfl (pi_range1 (by rfl) T.f_range (pa_cons (pv 1) pa_nil)) (pg_name (i := 4) sc__law_words.nd rfl (Or.inl rfl))
      (pss_cons (ps_set (i := 5) sc__law_words.nd rfl (Or.inr rfl) (pe_call (ok__law_ends T) (hr.mono (by decide)) rfl T.g__law_ends T.F__law_ends.kp (b__law_ends T) .nil pass0 (pa_cons (pv 2) pa_nil)))
      (pss_cons (ps_if (pt_cmpR op_eq (pv 3) pe_int (nomark _)) (pss_one (ps_set (i := 5) sc__law_words.nd rfl (Or.inr rfl) (pe_lc (own := [("_law_word", 6)]) rfl sc__law_words.nd (k_piL K rfl (pv 5)) (blkOk_by (own := [("_law_word", 6)]) (N := ["_law_hat_here", "_law_many", "_law_found", "_law_lean", "_law_k", "_law_some", "_law_word", "_law_one"]) (sc := (defScope s__law_words)) (by decide +kernel)) (fun _ _ _ _ _ => (pg_name (i := 6) sc__law_words.nd rfl (Or.inl rfl))) (fun _ _ _ _ _ => (pts_one (pt_cmpR op_eq (pe_callB call_len_str rfl T.f_len PySem.boot_len (pa_cons (pv 6) pa_nil)) (pe_callB (k_max K rfl rfl) rfl T.f_max (by decide +kernel) (pa_cons (pe_lc (own := [("_law_one", 7)]) rfl sc__law_words.nd (k_piL K rfl (pv 5)) (blkOk_by (own := [("_law_one", 7)]) (N := ["_law_hat_here", "_law_many", "_law_found", "_law_lean", "_law_k", "_law_some", "_law_word", "_law_one"]) (sc := (relS ({ kind := .function, names := [(".0", .local), ("_law_word", .local), ("len", .globalImplicit), ("max", .globalImplicit), ("_law_some", .free)], isGenerator := false, isCoroutine := false } : Scope) (defScope s__law_words))) (by decide +kernel)) (fun _ _ _ _ _ => (pg_name (i := 7) sc__law_words.nd rfl (Or.inl rfl))) (fun _ _ _ _ _ => pts_nil) (fun _ _ _ _ _ => (pe_callB call_len_str rfl T.f_len PySem.boot_len (pa_cons (pv 7) pa_nil)))) pa_nil)) (nomark _)))) (fun _ _ _ _ _ => (pv 6))))) pss_nil)
      (pss_cons (ps_if (PW.pt (pw_and (pt_cmpR op_eq (pv 3) pe_int (nomark _)) (pw_and1 (pt_cmpR op_eq (pe_call (ok__law_take T) (hr.mono (by decide)) rfl T.g__law_take T.F__law_take.kp (b__law_take T) .nil pass0 (pa_cons (pv 0) (pa_cons pe_int pa_nil))) pe_int (nomark _))))) (pss_one (ps_set (i := 5) sc__law_words.nd rfl (Or.inr rfl) (pe_op op_cat (pe_lc (own := [("_law_word", 6)]) rfl sc__law_words.nd (k_piL K rfl (pv 5)) (blkOk_by (own := [("_law_word", 6)]) (N := ["_law_hat_here", "_law_many", "_law_found", "_law_lean", "_law_k", "_law_some", "_law_word", "_law_one"]) (sc := (defScope s__law_words)) (by decide +kernel)) (fun _ _ _ _ _ => (pg_name (i := 6) sc__law_words.nd rfl (Or.inl rfl))) (fun _ _ _ _ _ => (pts_one (pt_cmpR op_eq (pe_slice sl_str (pv 6) (po_some (pe_un un_neg pe_int)) po_none) pe_str (nomark _)))) (fun _ _ _ _ _ => (pv 6))) (pe_slice (k_slL K rfl) (pv 5) po_none (po_some pe_int))))) pss_nil)
      (pss_one (ps_expr (pe_bm PySem.F.plainAttrs_list PySem.F.slot_list_append PySem.F.type_list_append mt_append (pv 2) (pa_cons (pe_ix (k_ixL K rfl) (pv 5) (pe_call (ok__law_take T) (hr.mono (by decide)) rfl T.g__law_take T.F__law_take.kp (b__law_take T) .nil pass0 (pa_cons (pv 0) (pa_cons (pe_callB (k_len K rfl) rfl T.f_len PySem.boot_len (pa_cons (pv 5) pa_nil)) pa_nil))) (fun _ _ => rfl)) pa_nil))))))))
      (pss_one (ps_ret (pe_callB (cr_sortA sb_str (hu := hu65)) rfl T.f_sorted (by decide +kernel) (pa_cons (pv 2) pa_nil))))))), ?_⟩
    refine ⟨by show 1 ≤ sizeLine; rw [sizeLine_eq]; decide, fun f hf => ?_⟩
    have e0 : ([V.str (Str.ofString "")] : List V) = strV [[]] := by
      rw [show (Str.ofString "") = tx [] by decide +kernel]; rfl
    rw [e0]
    have s1 := same_up (o := .lst (strV [[]])) hf
    have g1 : upd H f (.lst (strV [[]])) f = some (.lst (strV [[]])) := upd_same
    have hat1 := hat.into s1 hf
    have ow1 : Own (f :: S) (upd H f (.lst (strV [[]]))) := own_in ow hf
    have naf := hat.ne hf
    have nfS : f ∉ S := ow.new hf
    generalize upd H f (.lst (strV [[]])) = H1 at s1 g1 hat1 ow1
    refine ⟨_, rfl, f :: S, a, 4, rfl, by decide, by decide, hat1, ow1, fun ln H2 hln fz2 hat2 ow2 => ?_⟩
    have kf : f ∉ [a] := fun z => naf (List.mem_singleton.mp z)
    have g2 := fz2 _ _ kf g1
    refine ⟨_, rfl, (m : Int), rfl, by omega, by omega, ?_⟩
    have Sa : ∀ b ∈ [a], b ∈ S := sub2 haS
    refine for_range (lo := 0) (n := m) (fun i σ H' => (∃ j4 j5 j6 j7 : Option V, σ = [some (.ref a), some (.int m), some (.ref f), some (.int (ln : Nat)), j4, j5, j6, j7]) ∧ Fz [f, a] H2 H' ∧ HatAt K (f :: S) H' a ∧ Own (f :: S) H' ∧ ∃ F, H' f = some (.lst (strV F)) ∧ F.length = i + 1 ∧ CloW F i)
      ⟨⟨_, _, _, _, rfl⟩, .refl, hat2, ow2, [[]], g2, rfl, clo_one⟩ (fun i σ H3 hi hP => ?_) (fun σ H3 hP => ?_)
    · obtain ⟨⟨j4, j5, j6, j7, rfl⟩, fz3, hat3, ow3, F, gf, hF, clo⟩ := hP
      have aF : At (Hd S H3) (eList eStr) (.ref f) F := .of_list (by rw [Hd_at nfS]; exact gf) (ats_strs fun x hx => word_ok (clo.wb x hx))
      refine ⟨_, rfl, S, .ref f, F, rfl, aF, ow3.tail, by omega, fun x hx => by have := clo.len x hx; omega, clo.wb, fun u0 H4 s4 au0 => ?_⟩
      have neF : F ≠ [] := fun z => by rw [z] at hF; cases hF
      have fz34 : Fz [f, a] H2 H4 := fz3.trans (.of s4)
      have E0len : (Pw.srt (endsU F)).length ≤ 200 := by
        rw [srt_len]
        have := endG_len F F
        unfold endsU
        omega
      have E0ne : Pw.srt (endsU F) ≠ [] := fun z => ends_ne neF (List.eq_nil_of_length_eq_zero (by rw [← srt_len, z]; rfl))
      have E0mem : ∀ e ∈ Pw.srt (endsU F), e ∈ endsU F := fun e he => mem_srt.mp he
      generalize Pw.srt (endsU F) = E0 at au0 E0len E0ne E0mem
      dsimp only [gName]
      refine tseq_cut (fun N => ∀ (u : V) (E : List W) (H' : Hp) (j6 j7 : Option V), Fz [a] H4 H' → HatAt K (f :: S) H' a → Own (f :: S) H' → At (Hd S H') (eList eStr) u E → E ≠ [] → E.length ≤ 200 → (∀ e ∈ E, e ∈ endsU F) → N [some (.ref a), some (.int m), some (.ref f), some (.int (ln : Nat)), some (.int ((0 : Int) + (i : Nat))), some u, j6, j7] H') ?_ fun N hN => ?_
      · intro u E H5 j6 j7 fz5 hat5 ow5 au neE lenE memE
        refine tseq_cut (fun N => ∀ (u : V) (E : List W) (H' : Hp) (j6 j7 : Option V), Fz [a] H4 H' → HatAt K (f :: S) H' a → Own (f :: S) H' → At (Hd S H') (eList eStr) u E → E ≠ [] → E.length ≤ 400 → (∀ e ∈ E, e ∈ endsU F) → N [some (.ref a), some (.int m), some (.ref f), some (.int (ln : Nat)), some (.int ((0 : Int) + (i : Nat))), some u, j6, j7] H') ?_ fun N hN => ?_
        · intro u E H5 j6 j7 fz5 hat5 ow5 au neE lenE memE
          have gf5 : H5 f = some (.lst (strV F)) := fz5 _ _ kf (s4 _ _ gf)
          obtain ⟨pu, xu, rfl, hpu, hxu⟩ := id au.list
          have lxu := hxu.len
          have pos : 0 < E.length := List.length_pos_iff.mpr neE
          refine ⟨_, rfl, .inl ⟨rfl, _, .of gf5⟩, _, rfl, _, rfl, _, rfl, pu, xu, rfl, .inl (.of (Hd_some hpu).2), f :: S, a, xu.length, rfl, by omega, by omega, hat5, ow5, fun r H6 hr6 fz6 hat6 ow6 => ?_⟩
          have au6 := au.fz (fz6.more Sa)
          obtain ⟨pu', xu', e', hpu6, hxu6⟩ := id au6.list
          cases e'
          have hxx : xu' = xu := by
            have h1 := fz6 _ _ (fun z => (Hd_some hpu).1 (Sa _ z)) (Hd_some hpu).2
            rw [(Hd_some hpu6).2] at h1
            injection h1 with h1
            injection h1
          subst hxx
          have hy : xu'[r]? = some xu'[r] := List.getElem?_eq_getElem hr6
          obtain ⟨e, he, ae⟩ := hxu6.at hy
          have hee := memE e (List.mem_of_getElem? he)
          rw [ae.str] at hy
          refine ⟨pu, xu', r, _, rfl, rfl, .of (Hd_some hpu6).2, atI_nat hy, ?_⟩
          have gf6 := fz6 _ _ kf gf5
          refine ⟨f, strV F, _, rfl, rfl, gf6, by rw [List.length_map, sizeLine_eq]; omega, ⟨_, _, _, _, rfl⟩, ?_, hat6.upd List.mem_cons_self naf, ow6.kp .upd, F ++ [e], ?_, by rw [List.length_append, hF]; rfl, clo.more (by omega) hee⟩
          · exact ((fz34.trans (fz5.more fun b hb => List.mem_cons_of_mem _ hb)).trans (fz6.more fun b hb => List.mem_cons_of_mem _ hb)).trans (fz_upd List.mem_cons_self)
          · rw [upd_same]
            unfold strV
            rw [List.map_append]; rfl
        · have skip := hN u E H5 j6 j7 fz5 hat5 ow5 au neE (by omega) memE
          refine ⟨_, rfl, rfl, _, rfl, ite2 (fun e => ?_) fun e => iteF skip⟩
          refine ⟨_, rfl, f :: S, a, 2, rfl, by decide, by decide, hat5, ow5, fun r H6 hr6 fz6 hat6 ow6 => ?_⟩
          have au6 := au.fz (fz6.more Sa)
          have fz46 := fz5.trans fz6
          refine ⟨rfl, _, rfl, ite2 (fun e2 => ?_) fun e2 => hN u E H6 _ _ fz46 hat6 ow6 au6 neE (by omega) memE⟩
          obtain ⟨pu, xu, rfl, hpu, hxu⟩ := id au6.list
          have lxu := hxu.len
          refine ⟨_, rfl, pu, rfl, ⟨_, .of (Hd_some hpu).2⟩, fun D hD => ?_⟩
          refine lc_at (A := eStr) (B := eStr) (S := S) (fun x => decide (V.str (tx (x.drop (x.length - 1))) = V.str (Str.ofString "u"))) (fun x => x) ow6.tail hD hpu hxu (by rw [sizeLine_eq]; omega) (fun x hx v H7 s7 wD ax NF NT k1 k2 => ?_) (fun H7 s7 a7 => ?_)
          · obtain rfl := ax.str
            refine ⟨rfl, _, rfl, 1, rfl, _, rfl, _, rfl, okW_line ax.2, ?_⟩
            rw [show (-1 : Int) = -1 from rfl, cut_last]
            refine ⟨rfl, _, rfl, ite2 (fun e3 => ?_) fun e3 => ?_⟩
            · exact ⟨_, rfl, k2 e3 _ _ (.refl _) ax⟩
            · exact k1 (Bool.eq_false_iff.mpr e3) _ (.refl _)
          · rw [List.map_id'] at a7
            obtain ⟨pD, zs, eD, hpD, hzs⟩ := id a7.list
            injection eD with eD
            subst eD
            have au7 := au6.up s7
            refine ⟨_, rfl, 1, rfl, pu, xu, rfl, .of (s7 _ _ (Hd_some hpu).2), fun p2 hp2 => ?_⟩
            rw [show (some (1 : Int)) = some ((1 : Nat) : Int) from rfl, cutv_hi]
            have s8 := same_up (o := .lst (xu.take 1)) hp2
            have x8 := (hxu.up s7).take 1
            have lz := hzs.len
            have lz2 := List.length_filter_le (fun x : W => decide (V.str (tx (x.drop (x.length - 1))) = V.str (Str.ofString "u"))) E
            have lt1 : (xu.take 1).length ≤ 1 := by rw [List.length_take]; omega
            refine ⟨D, p2, zs, xu.take 1, rfl, rfl, s8 _ _ (Hd_some hpD).2, upd_same, by rw [sizeLine_eq]; omega, fun pq hpq => ?_⟩
            have s9 := same_up (o := .lst (zs ++ xu.take 1)) hpq
            have sA := (s7.trans s8).trans s9
            have ow9 := ow6.same (s7.trans s8)
            refine hN _ _ _ _ _ (fz46.trans (.of sA)) (hat6.same sA) (ow6.same sA) (at_new ow9.tail hpq (((hzs.up s8)).app (x8.up s8))) ?_ ?_ ?_
            · intro z
              have : E.take 1 = [] := (List.append_eq_nil_iff.mp z).2
              cases E with
              | nil => exact neE rfl
              | cons y ys => cases this
            · rw [List.length_append, List.length_take]; omega
            · intro e he
              rcases List.mem_append.mp he with he | he
              · exact memE e (List.mem_filter.mp he).1
              · exact memE e (List.mem_of_mem_take he)
      · have skip := hN u0 E0 H4 j6 j7 .refl (hat3.same s4) (ow3.same s4) au0 E0ne (by omega) E0mem
        refine ⟨_, rfl, rfl, _, rfl, ite2 (fun e => ?_) fun e => skip⟩
        obtain ⟨pu, xu, rfl, hpu, hxu⟩ := id au0.list
        have lxu := hxu.len
        obtain ⟨x0, hx0, hmax⟩ := longest E0ne
        refine ⟨_, rfl, pu, rfl, ⟨_, .of (Hd_some hpu).2⟩, fun D hD => ?_⟩
        refine lc_at (A := eStr) (B := eStr) (S := S) (fun x => decide (x.length = x0.length)) (fun x => x) (ow3.same s4).tail hD hpu hxu (by rw [sizeLine_eq]; omega) (fun x hx v H7 s7 wD ax NF NT k1 k2 => ?_) (fun H7 s7 a7 => ?_)
        · obtain rfl := ax.str
          refine ⟨rfl, _, rfl, _, rfl, okW_line ax.2, ?_⟩
          refine ⟨_, rfl, pu, rfl, ⟨_, .of (s7 _ _ (Hd_some hpu).2)⟩, fun D2 hD2 => ?_⟩
          refine lc_atV (A := eStr) (S := S) (fun _ => true) (fun y => .int (y.length : Nat)) hD2 (same_hd s7 _ _ hpu) (hxu.up s7) (by rw [sizeLine_eq]; omega) (fun y hy v H8 s8 ay NF' NT' j1 j2 => ?_) (fun H8 s8 hl8 => ?_)
          · obtain rfl := ay.str
            refine ⟨rfl, _, rfl, _, rfl, okW_line ay.2, ?_⟩
            rw [tx_len]
            exact j2 rfl _ (.refl _)
          · rw [ftrue] at hl8
            refine ⟨D2, E0.map fun y => ((y.length : Nat) : Int), rfl, .of (by rw [hl8, List.map_map]; rfl), by rw [List.length_map]; exact List.length_pos_iff.mpr E0ne, fun mx h1 h2 => ?_⟩
            obtain ⟨y, hy, rfl⟩ := List.mem_map.mp h1
            have g1 := h2 _ (List.mem_map.mpr ⟨x0, hx0, rfl⟩)
            have g2 := hmax y hy
            have ey : y.length = x0.length := by omega
            rw [tx_len, ey]
            refine ⟨rfl, _, rfl, ite2 (fun e3 => ?_) fun e3 => ?_⟩
            · have e4 := V.int.inj (of_decide_eq_true e3)
              exact ⟨_, rfl, k2 (decide_eq_true (by omega)) _ _ s8 (ax.up s8)⟩
            · exact k1 (decide_eq_false fun z => e3 (decide_eq_true (by rw [z]))) _ s8
        · rw [List.map_id'] at a7
          refine hN _ _ H7 _ _ (.of s7) ((hat3.same s4).same s7) ((ow3.same s4).same s7) a7 ?_ ?_ ?_
          · intro z
            have : x0 ∈ E0.filter fun x => decide (x.length = x0.length) := List.mem_filter.mpr ⟨hx0, decide_eq_true rfl⟩
            rw [z] at this; cases this
          · exact Nat.le_trans (List.length_filter_le _ _) E0len
          · exact fun e he => E0mem e (List.mem_filter.mp he).1
    · obtain ⟨⟨j4, j5, j6, j7, rfl⟩, fz3, hat3, ow3, F, gf, hF, clo⟩ := hP
      have aF : At (Hd S H3) (eList eStr) (.ref f) F := .of_list (by rw [Hd_at nfS]; exact gf) (ats_strs fun x hx => word_ok (clo.wb x hx))
      refine ⟨_, rfl, S, _, F, rfl, aF, ow3.tail, fun p xs hp ap => ?_⟩
      refine q _ _ _ (by rw [srt_len]; exact hF) clo.srt ap ?_ ((hat3.out haS).same (same_up hp)) (ow3.tail.same (same_up hp))
      have h1 : Fz [f, a] H H3 := ((Fz.of s1).trans (fz2.more fun b hb => List.mem_cons_of_mem _ hb)).trans fz3
      exact (h1.drop hf).trans (.of (same_up hp))
end
end Pw
end
section
set_option linter.all false
set_option maxRecDepth 100000
set_option maxHeartbeats 2000000
/-! Law 6: grove, more. -/
namespace Pw
open PySem PySem.Spec PyProof.Rows L2
/-- spots, none without what is beneath it, none higher than n -/
def SpOk (G : List Spot) (n : Nat) : Prop := ∀ s ∈ G, nameB s.1 = true ∧ wordB s.2 = true ∧ s.2.length ≤ n ∧ (s.2 ≠ [] → (s.1, s.2.dropLast) ∈ G)
theorem SpOk.mem {G G' : List Spot} {n : Nat} (h : SpOk G n) (e : ∀ s, s ∈ G' ↔ s ∈ G) : SpOk G' n := fun s hs => by
  obtain ⟨a, b, c, d⟩ := h s ((e s).mp hs)
  exact ⟨a, b, c, fun z => (e _).mpr (d z)⟩
theorem SpOk.good {G : List Spot} {n : Nat} (h : SpOk G n) : GoodS G := fun s hs => ⟨(h s hs).1, (h s hs).2.1, (h s hs).2.2.2⟩
theorem SpOk.ok {G : List Spot} {n : Nat} (h : SpOk G n) {s : Spot} (hs : s ∈ G) : okW s.1 ∧ okW s.2 := ⟨name_ok (h s hs).1, word_ok (h s hs).2.1⟩
theorem SpOk.more {G : List Spot} {n : Nat} {t : W} {e : W} (h : SpOk G n) (hn : n < 16) (ht : nameB t = true) (he : e ∈ endsU ((G.filter fun s => decide (s.1 = t)).map fun s => s.2)) : SpOk (G ++ [(t, e)]) (n + 1) := by
  obtain ⟨x, hx, c, hc, rfl, _⟩ := mem_ends.mp he
  obtain ⟨s, hs, rfl⟩ := List.mem_map.mp hx
  obtain ⟨hs2, e⟩ := List.mem_filter.mp hs
  have e := of_decide_eq_true e
  subst e
  have hs' := h s hs2
  intro y hy
  rcases List.mem_append.mp hy with hy | hy
  · obtain ⟨a, b, c, d⟩ := h y hy
    exact ⟨a, b, by omega, fun z => List.mem_append_left _ (d z)⟩
  · rw [List.mem_singleton.mp hy]
    refine ⟨hs'.1, word_more hs'.2.1 (by omega) hc, ?_, fun _ => List.mem_append_left _ ?_⟩
    · show (s.2 ++ [c]).length ≤ n + 1
      rw [List.length_append, List.length_singleton]; omega
    · show (s.1, (s.2 ++ [c]).dropLast) ∈ G
      rw [List.dropLast_concat]; exact hs2
structure GrOk (ns : List W) (G : List Spot) : Prop where
  sp : SpOk G 7
  names : ∀ s ∈ G, s.1 ∈ ns
  roots : ∀ n ∈ ns, (n, ([] : W)) ∈ G
theorem GrOk.mem {ns : List W} {G G' : List Spot} (h : GrOk ns G) (e : ∀ s, s ∈ G' ↔ s ∈ G) : GrOk ns G' := ⟨h.sp.mem e, fun s hs => h.names s ((e s).mp hs), fun n hn => (e _).mpr (h.roots n hn)⟩
theorem GrOk.more {ns : List W} {G : List Spot} {n : W} {F : List W} (h : GrOk ns G) (hn : nameB n = true) (hF : CloW F 7) : GrOk (ns ++ [n]) (G ++ F.map fun x => (n, x)) := by
  refine ⟨fun s hs => ?_, fun s hs => ?_, fun t ht => ?_⟩
  · rcases List.mem_append.mp hs with hs | hs
    · obtain ⟨a, b, c, d⟩ := h.sp s hs
      exact ⟨a, b, c, fun z => List.mem_append_left _ (d z)⟩
    · obtain ⟨x, hx, rfl⟩ := List.mem_map.mp hs
      exact ⟨hn, hF.wb x hx, hF.len x hx, fun z => List.mem_append_right _ (List.mem_map.mpr ⟨_, hF.clo x hx z, rfl⟩)⟩
  · rcases List.mem_append.mp hs with hs | hs
    · exact List.mem_append_left _ (h.names s hs)
    · obtain ⟨x, hx, rfl⟩ := List.mem_map.mp hs
      exact List.mem_append_right _ (List.mem_singleton.mpr rfl)
  · rcases List.mem_append.mp ht with ht | ht
    · exact List.mem_append_left _ (h.roots t ht)
    · rw [List.mem_singleton.mp ht]
      exact List.mem_append_right _ (List.mem_map.mpr ⟨_, hF.root, rfl⟩)
theorem gr_nil : GrOk [] [] := ⟨(fun s h => nomatch h), (fun s h => nomatch h), (fun s h => nomatch h)⟩
theorem CloW.up {F : List W} {n m : Nat} (h : CloW F n) (e : n ≤ m) : CloW F m := ⟨h.root, h.wb, h.clo, fun x hx => Nat.le_trans (h.len x hx) e⟩
section
variable {P : Program} {w : World} {K : PySem.W.Frag} {mg : Str → Option Value} {base : Heap}
abbrev s__law_grove : Stmt := top 53
theorem sc__law_grove : FnScope ["_law_hat_here", "_law_names_here", "_law_most", "_law_found", "_law_name", "_law_word"] ["_law_hat_here", "_law_names_here", "_law_most"] (defScope s__law_grove) := ⟨rfl, rfl, rfl, by decide +kernel, rfl, by decide +kernel, by decide +kernel⟩
def spGrove : Sp := fun vs H Q _ => ∃ (S : List Addr) (a : Addr) (v : V) (ns : List W), vs = [.ref a, v, .int 7] ∧ HatAt K S H a ∧ Own S H ∧ At (Hd S H) (eList eStr) v ns ∧ ns.length ≤ 3 ∧ (∀ n ∈ ns, nameB n = true) ∧
  ∀ u G H', GrOk ns G → G.length ≤ 24 → At (Hd S H') eSpots u G → Fz [a] H H' → HatAt K S H' a → Own S H' → Q u H'
theorem ok__law_grove (T : Tx K mg) : FnOk P w K mg base CX0 3 (He.ga K "_law_grove") T.fd__law_grove ["_law_hat_here", "_law_names_here", "_law_most"] (spGrove (K := K)) := by
  refine T.F__law_grove.ok sc__law_grove (fun vs H Q E h => ?_) (fun cdv A outer s H vs Q E hr h => ?_)
  · obtain ⟨S, a, v, ns, rfl, _⟩ := h; rfl
  · obtain ⟨S, a, v, ns, rfl, hat, ow, hv, hlen, good, q⟩ := h
    have haS := hat.own
    have hu65 := hu65_of hr
    refine ⟨_, (pss_cons (ps_set (i := 3) sc__law_grove.nd rfl (Or.inl rfl) (pe_lst pa_nil))
      (pss_cons (ps_for PassesOwn.leaving rfl (k_piL K rfl (pv 1)) (pg_name (i := 4) sc__law_grove.nd rfl (Or.inr rfl))
      (pss_one (ps_expr (pe_bm PySem.F.plainAttrs_list PySem.F.slot_list_extend PySem.F.type_list_extend mt_extend (pv 3) (pa_cons (pe_lc (own := [("_law_word", 5)]) rfl sc__law_grove.nd (k_piL K rfl (pe_call (ok__law_words T) (hr.mono (by decide)) rfl T.g__law_words T.F__law_words.kp (b__law_words T) .nil pass0 (pa_cons (pv 0) (pa_cons (pe_call (ok__law_take T) (hr.mono (by decide)) rfl T.g__law_take T.F__law_take.kp (b__law_take T) .nil pass0 (pa_cons (pv 0) (pa_cons (pe_op op_add (pv 2) pe_int) pa_nil))) pa_nil)))) (blkOk_by (own := [("_law_word", 5)]) (N := ["_law_hat_here", "_law_names_here", "_law_most", "_law_found", "_law_name", "_law_word"]) (sc := (defScope s__law_grove)) (by decide +kernel)) (fun _ _ _ _ _ => (pg_name (i := 5) sc__law_grove.nd rfl (Or.inl rfl))) (fun _ _ _ _ _ => pts_nil) (fun _ _ _ _ _ => (pe_tup (pa_cons (pv 4) (pa_cons (pv 5) pa_nil))))) pa_nil)))))
      (pss_one (ps_ret (pe_callB (cr_sortA sb_spot (hu := hu65)) rfl T.f_sorted (by decide +kernel) (pa_cons (pv 3) pa_nil)))))), ?_⟩
    refine ⟨Nat.zero_le _, fun f hf => ?_⟩
    have s1 := same_up (o := .lst []) hf
    have g1 : upd H f (.lst []) f = some (.lst []) := upd_same
    have hat1 := hat.into s1 hf
    have ow1 : Own (f :: S) (upd H f (.lst [])) := own_in ow hf
    have naf := hat.ne hf
    have nfS : f ∉ S := ow.new hf
    have hv1 : At (Hd (f :: S) (upd H f (.lst []))) (eList eStr) v ns := hv.into s1 hf
    generalize upd H f (.lst []) = H1 at s1 g1 hat1 ow1 hv1
    have kf : f ∉ [a] := fun z => naf (List.mem_singleton.mp z)
    have Sa : ∀ b ∈ [a], b ∈ f :: S := fun b hb => List.mem_cons_of_mem _ (sub2 haS b hb)
    have Sfa : ∀ b ∈ [f, a], b ∈ f :: S := fun b hb => (List.mem_cons.mp hb).elim (fun e => by rw [e]; exact List.mem_cons_self) (Sa b)
    obtain ⟨pv, xv, rfl, hpv, hxv⟩ := id hv1.list
    refine ⟨_, rfl, pv, rfl, ⟨_, .of (Hd_some hpv).2⟩, ?_⟩
    refine forL (A := eStr) (S := f :: S) (l := ns) hpv hxv (fun i σ H' => (∃ j4 j5 : Option V, σ = [some (.ref a), some (.ref pv), some (.int 7), some (.ref f), j4, j5]) ∧ Fz [f, a] H1 H' ∧ HatAt K (f :: S) H' a ∧ Own (f :: S) H' ∧ ∃ ys G, H' f = some (.lst ys) ∧ Ats (Hd (f :: S) H') eSpot ys G ∧ GrOk (ns.take i) G ∧ G.length ≤ 8 * i)
      ⟨⟨_, _, rfl⟩, .refl, hat1, ow1, [], [], g1, .nil, gr_nil, Nat.zero_le _⟩ (fun i σ H' h => h.2.1.more Sfa) (fun i n v σ H3 hi hP av => ?_) (fun σ H3 hP => ?_)
    · obtain ⟨⟨j4, j5, rfl⟩, fz3, hat3, ow3, ys, G, gf, aG, gr, lG⟩ := hP
      obtain rfl := av.str
      have hi3 := (List.getElem?_eq_some_iff.mp hi).1
      have nn := good n (List.mem_of_getElem? hi)
      refine ⟨_, rfl, .inl ⟨rfl, ys, .of gf⟩, _, rfl, _, rfl, _, rfl, _, _, rfl, rfl, f :: S, a, 8, rfl, by decide, by decide, hat3, ow3, fun r H4 hr4 fz4 hat4 ow4 => ?_⟩
      refine ⟨f :: S, a, r, rfl, by omega, hat4, ow4, fun u F H5 hF clo aF fz5 hat5 ow5 => ?_⟩
      obtain ⟨pu, xu, rfl, hpu, hxu⟩ := id aF.list
      have fz35 := fz4.trans fz5
      refine ⟨pu, rfl, ⟨_, .of (Hd_some hpu).2⟩, fun D hD => ?_⟩
      refine lc_at (A := eStr) (B := eSpot) (S := f :: S) (fun _ => true) (fun x => (n, x)) ow5 hD hpu hxu (by rw [sizeLine_eq]; omega) (fun x hx v H6 s6 wD ax NF NT k1 k2 => ?_) (fun H6 s6 a6 => ?_)
      · obtain rfl := ax.str
        refine ⟨rfl, _, rfl, _, rfl, two_line, fun b hb => ?_⟩
        exact k2 rfl _ _ (same_up hb) (at_newS wD hb (name_ok nn) ax.2)
      · rw [ftrue] at a6
        obtain ⟨pD, zs, eD, hpD, hzs⟩ := id a6.list
        injection eD with eD
        subst eD
        have gf6 := s6 _ _ (fz35 _ _ kf gf)
        have ly := aG.len
        have lz := hzs.len
        rw [List.length_map] at lz
        refine ⟨f, D, ys, zs, rfl, rfl, gf6, (Hd_some hpD).2, by rw [sizeLine_eq]; omega, ⟨_, _, rfl⟩, ?_, (hat5.same s6).upd List.mem_cons_self naf, (ow5.same s6).kp .upd, _, G ++ F.map fun x => (n, x), upd_same, (((aG.fz (fz35.more Sa)).up s6).app hzs).up1 List.mem_cons_self, ?_, ?_⟩
        · exact ((fz3.trans (fz35.more fun b hb => List.mem_cons_of_mem _ hb)).trans (.of s6)).trans (fz_upd List.mem_cons_self)
        · rw [take_step hi]
          exact gr.more nn (clo.up (by omega))
        · rw [List.length_append, List.length_map, hF]; omega
    · obtain ⟨⟨j4, j5, rfl⟩, fz3, hat3, ow3, ys, G, gf, aG, gr, lG⟩ := hP
      rw [List.take_length] at gr
      refine ⟨_, rfl, S, _, G, rfl, .of_list (by rw [Hd_at nfS]; exact gf) aG.out, ow3.tail, fun p xs hp ap => ?_⟩
      refine q _ _ _ (gr.mem fun s => mem_srt) (by rw [srt_len]; omega) ap ?_ ((hat3.out haS).same (same_up hp)) (ow3.tail.same (same_up hp))
      exact (((Fz.of s1).trans fz3).drop hf).trans (.of (same_up hp))
abbrev s__law_more : Stmt := top 54
theorem sc__law_more : FnScope ["_law_hat_here", "_law_standing", "_law_names_here", "_law_many", "_law_found", "_law_k", "_law_name", "_law_words_here", "_law_some", "_law_tree", "_law_word"] ["_law_hat_here", "_law_standing", "_law_names_here", "_law_many"] (defScope s__law_more) := ⟨rfl, rfl, rfl, by decide +kernel, rfl, by decide +kernel, by decide +kernel⟩
def spMore : Sp := fun vs H Q _ => ∃ (S : List Addr) (a : Addr) (v1 v2 : V) (m : Nat) (B : List Spot) (ns : List W), vs = [.ref a, v1, v2, .int m] ∧ m ≤ 6 ∧ HatAt K S H a ∧ Own S H ∧ At (Hd S H) eSpots v1 B ∧ At (Hd S H) (eList eStr) v2 ns ∧ ns ≠ [] ∧ ns.length ≤ 3 ∧ (∀ n ∈ ns, nameB n = true ∧ (n, ([] : W)) ∈ B) ∧ SpOk B 7 ∧ B.length ≤ 24 ∧
  ∀ u G N H', N.length ≤ 6 → G.Perm (B ++ N) → SpOk G 13 → (∀ s ∈ N, s.1 ∈ ns) → At (Hd S H') eSpots u G → Fz [a] H H' → HatAt K S H' a → Own S H' → Q u H'
theorem ok__law_more (T : Tx K mg) : FnOk P w K mg base CX0 2 (He.ga K "_law_more") T.fd__law_more ["_law_hat_here", "_law_standing", "_law_names_here", "_law_many"] (spMore (K := K)) := by
  refine T.F__law_more.ok sc__law_more (fun vs H Q E h => ?_) (fun cdv A outer s H vs Q E hr h => ?_)
  · obtain ⟨S, a, v1, v2, m, B, ns, rfl, _⟩ := h; rfl
  · obtain ⟨S, a, v1, v2, m, B, ns, rfl, hm, hat, ow, hv1, hv2, nen, lns, good, spB, lB, q⟩ := h
    have haS := hat.own
    have hu65 := hu65_of hr
    refine ⟨_, (pss_cons (ps_set (i := 4) sc__law_more.nd rfl (Or.inl rfl) (pe_callTy (k_listOf K rfl) rfl T.f_list (by decide +kernel) (pa_cons (pv 1) pa_nil)))
      (pss_cons (ps_for PassesOwn.leaving rfl (pi_range1 (by rfl) T.f_range (pa_cons (pv 3) pa_nil)) (pg_name (i := 5) sc__law_more.nd rfl (Or.inl rfl))
      (pss_cons (ps_set (i := 6) sc__law_more.nd rfl (Or.inr rfl) (pe_ix (k_ixL K rfl) (pv 2) (pe_call (ok__law_take T) (hr.mono (by decide)) rfl T.g__law_take T.F__law_take.kp (b__law_take T) .nil pass0 (pa_cons (pv 0) (pa_cons (pe_callB (k_len K rfl) rfl T.f_len PySem.boot_len (pa_cons (pv 2) pa_nil)) pa_nil))) (fun _ _ => rfl)))
      (pss_cons (ps_setLc (i := 7) (own := [("_law_tree", 9), ("_law_word", 10)]) rfl sc__law_more.nd rfl rfl (sw_true rfl rfl rfl (by decide +kernel)) (k_piL K rfl (pv 4)) (blkOk_by (own := [("_law_tree", 9), ("_law_word", 10)]) (N := ["_law_hat_here", "_law_standing", "_law_names_here", "_law_many", "_law_found", "_law_k", "_law_name", "_law_words_here", "_law_some", "_law_tree", "_law_word"]) (sc := (defScope s__law_more)) (by decide +kernel)) (fun _ _ _ _ _ => (k_pgT K rfl (n := 2) rfl (pgs_cons (pg_name (i := 9) sc__law_more.nd rfl (Or.inl rfl)) (pgs_cons (pg_name (i := 10) sc__law_more.nd rfl (Or.inl rfl)) pgs_nil)))) (fun _ _ _ _ _ => (pts_one (pt_cmpR op_eq (pv 9) (pv 6) (nomark _)))) (fun _ _ _ _ _ => (pv 10)))
      (pss_cons (ps_set (i := 8) sc__law_more.nd rfl (Or.inl rfl) (pe_call (ok__law_ends T) (hr.mono (by decide)) rfl T.g__law_ends T.F__law_ends.kp (b__law_ends T) .nil pass0 (pa_cons (pv 7) pa_nil)))
      (pss_cons (ps_if (pt_cmpR op_eq (pe_call (ok__law_take T) (hr.mono (by decide)) rfl T.g__law_take T.F__law_take.kp (b__law_take T) .nil pass0 (pa_cons (pv 0) (pa_cons pe_int pa_nil))) pe_int (nomark _)) (pss_one (ps_set (i := 8) sc__law_more.nd rfl (Or.inl rfl) (pe_slice (k_slL K rfl) (pv 8) (po_some (pe_un un_neg pe_int)) po_none))) pss_nil)
      (pss_one (ps_expr (pe_bm PySem.F.plainAttrs_list PySem.F.slot_list_append PySem.F.type_list_append mt_append (pv 4) (pa_cons (pe_tup (pa_cons (pv 6) (pa_cons (pe_ix (k_ixL K rfl) (pv 8) (pe_call (ok__law_take T) (hr.mono (by decide)) rfl T.g__law_take T.F__law_take.kp (b__law_take T) .nil pass0 (pa_cons (pv 0) (pa_cons (pe_callB (k_len K rfl) rfl T.f_len PySem.boot_len (pa_cons (pv 8) pa_nil)) pa_nil))) (fun _ _ => rfl)) pa_nil))) pa_nil)))))))))
      (pss_one (ps_ret (pe_callB (cr_sortA sb_spot (hu := hu65)) rfl T.f_sorted (by decide +kernel) (pa_cons (pv 4) pa_nil)))))), ?_⟩
    obtain ⟨pB, xB, rfl, hpB, hxB⟩ := id hv1.list
    refine ⟨_, rfl, pB, xB, rfl, .inl (.of (Hd_some hpB).2), fun f hf => ?_⟩
    have s1 := same_up (o := .lst xB) hf
    have g1 : upd H f (.lst xB) f = some (.lst xB) := upd_same
    have hat1 := hat.into s1 hf
    have ow1 : Own (f :: S) (upd H f (.lst xB)) := own_in ow hf
    have naf := hat.ne hf
    have nfS : f ∉ S := ow.new hf
    have hv21 : At (Hd (f :: S) (upd H f (.lst xB))) (eList eStr) v2 ns := hv2.into s1 hf
    have aB1 : Ats (Hd (f :: S) (upd H f (.lst xB))) eSpot xB B := hxB.into s1 hf
    generalize upd H f (.lst xB) = H1 at s1 g1 hat1 ow1 hv21 aB1
    have kf : f ∉ [a] := fun z => naf (List.mem_singleton.mp z)
    have Sa : ∀ b ∈ [a], b ∈ f :: S := fun b hb => List.mem_cons_of_mem _ (sub2 haS b hb)
    have Sa0 : ∀ b ∈ [a], b ∈ S := sub2 haS
    have Sfa : ∀ b ∈ [f, a], b ∈ f :: S := fun b hb => (List.mem_cons.mp hb).elim (fun e => by rw [e]; exact List.mem_cons_self) (Sa b)
    refine ⟨_, rfl, (m : Int), rfl, by omega, by omega, ?_⟩
    refine for_range (lo := 0) (n := m) (fun i σ H' => (∃ j5 j6 j7 j8 j9 jA : Option V, σ = [some (.ref a), some (.ref pB), some v2, some (.int m), some (.ref f), j5, j6, j7, j8, j9, jA]) ∧ Fz [f, a] H1 H' ∧ HatAt K (f :: S) H' a ∧ Own (f :: S) H' ∧ ∃ ys N, H' f = some (.lst ys) ∧ Ats (Hd (f :: S) H') eSpot ys (B ++ N) ∧ SpOk (B ++ N) (7 + i) ∧ N.length = i ∧ ∀ s ∈ N, s.1 ∈ ns)
      ⟨⟨_, _, _, _, _, _, rfl⟩, .refl, hat1, ow1, xB, [], g1, by rw [List.append_nil]; exact aB1, by rw [List.append_nil]; exact spB, rfl, fun s h => nomatch h⟩ (fun i σ H3 hi hP => ?_) (fun σ H3 hP => ?_)
    · obtain ⟨⟨j5, j6, j7, j8, j9, jA, rfl⟩, fz3, hat3, ow3, ys, N, gf, aG, sp, lN, nN⟩ := hP
      have a23 : At (Hd (f :: S) H3) (eList eStr) v2 ns := hv21.fz (fz3.more Sfa)
      obtain ⟨pn, xn, rfl, hpn, hxn⟩ := id a23.list
      have lxn := hxn.len
      have posn : 0 < ns.length := List.length_pos_iff.mpr nen
      refine ⟨_, rfl, _, rfl, _, rfl, pn, xn, rfl, .inl (.of (Hd_some hpn).2), f :: S, a, xn.length, rfl, by omega, by omega, hat3, ow3, fun r H4 hr4 fz4 hat4 ow4 => ?_⟩
      have hpn4 := fz4 _ _ (fun z => (Hd_some hpn).1 (Sa _ z)) (Hd_some hpn).2
      have hy : xn[r]? = some xn[r] := List.getElem?_eq_getElem hr4
      obtain ⟨n, hn, an⟩ := hxn.at hy
      have nmem := List.mem_of_getElem? hn
      obtain ⟨nn, rootn⟩ := good n nmem
      rw [an.str] at hy
      refine ⟨pn, xn, r, _, rfl, rfl, .of hpn4, atI_nat hy, ?_⟩
      have gf4 := fz4 _ _ kf gf
      have aG4 := aG.fz (fz4.more Sa)
      have lG : (B ++ N).length ≤ 30 := by rw [List.length_append]; omega
      have lys := aG.len
      generalize hG : B ++ N = G at aG aG4 sp lG lys
      have Gf : Hd S H4 f = some (.lst ys) := by rw [Hd_at nfS]; exact gf4
      refine ⟨_, rfl, f, rfl, ⟨_, .of gf4⟩, fun D hD => ?_⟩
      refine lc_at (A := eSpot) (B := eStr) (S := S) (fun s => decide (s.1 = n)) (fun s => s.2) ow4.tail hD Gf aG4.out (by rw [sizeLine_eq]; omega) (fun x hx v H5 s5 wD ax NF NT k1 k2 => ?_) (fun H5 s5 a5 => ?_)
      · obtain ⟨t, rfl, ht, w1, w2⟩ := ax.spot
        refine ⟨t, _, rfl, .of (hd_to _ _ ht), rfl, _, _, rfl, _, _, rfl, rfl, rfl, ?_⟩
        refine ⟨_, rfl, _, rfl, rfl, _, rfl, ite2 (fun e => ?_) fun e => ?_⟩
        · have e1 := tx_inj (V.str.inj (of_decide_eq_true e))
          exact ⟨_, rfl, k2 (decide_eq_true e1) _ _ (.refl _) (.of_str w2)⟩
        · exact k1 (decide_eq_false fun z => e (decide_eq_true (by rw [z]))) _ (.refl _)
      · have wl : ((G.filter fun s => decide (s.1 = n)).map fun s => s.2).length ≤ 30 := by
          rw [List.length_map]
          exact Nat.le_trans (List.length_filter_le _ _) lG
        have wm : ∀ x ∈ (G.filter fun s => decide (s.1 = n)).map fun s => s.2, wordB x = true ∧ x.length ≤ 7 + i := fun x hx => by
          obtain ⟨s, hs, rfl⟩ := List.mem_map.mp hx
          have := sp s (List.mem_filter.mp hs).1
          exact ⟨this.2.1, this.2.2.1⟩
        have wr : ([] : W) ∈ (G.filter fun s => decide (s.1 = n)).map fun s => s.2 := List.mem_map.mpr ⟨(n, []), List.mem_filter.mpr ⟨by rw [← hG]; exact List.mem_append_left _ rootn, decide_eq_true rfl⟩, rfl⟩
        have step : ∀ e, e ∈ endsU ((G.filter fun s => decide (s.1 = n)).map fun s => s.2) → SpOk (G ++ [(n, e)]) (7 + i + 1) := fun e he => sp.more (by omega) nn he
        generalize ((G.filter fun s => decide (s.1 = n)).map fun s => s.2) = WH at a5 wl wm wr step
        refine ⟨_, rfl, S, _, WH, rfl, a5, (ow4.same s5).tail, by omega, fun x hx => by have := (wm x hx).2; omega, fun x hx => (wm x hx).1, fun u0 H6 s6 au0 => ?_⟩
        have neW : WH ≠ [] := fun z => by rw [z] at wr; cases wr
        have E0len : (Pw.srt (endsU WH)).length ≤ 200 := by
          rw [srt_len]
          have := endG_len WH WH
          unfold endsU
          omega
        have E0ne : Pw.srt (endsU WH) ≠ [] := fun z => ends_ne neW (List.eq_nil_of_length_eq_zero (by rw [← srt_len, z]; rfl))
        have E0mem : ∀ e ∈ Pw.srt (endsU WH), e ∈ endsU WH := fun e he => mem_srt.mp he
        generalize Pw.srt (endsU WH) = E0 at au0 E0len E0ne E0mem
        have s46 := s5.trans s6
        have fz16 : Fz [f, a] H1 H6 := (fz3.trans (fz4.more fun b hb => List.mem_cons_of_mem _ hb)).trans (.of s46)
        have gf6 := s46 _ _ gf4
        have aG6 := aG4.up s46
        have hat6 := hat4.same s46
        have ow6 := ow4.same s46
        dsimp only [gName]
        refine tseq_cut (fun N' => ∀ (u : V) (E : List W) (H' : Hp), Fz [a] H6 H' → HatAt K (f :: S) H' a → Own (f :: S) H' → At (Hd S H') (eList eStr) u E → E ≠ [] → E.length ≤ 200 → (∀ e ∈ E, e ∈ endsU WH) → N' [some (.ref a), some (.ref pB), some (.ref pn), some (.int m), some (.ref f), some (.int ((0 : Int) + (i : Nat))), some (.str (tx n)), some (.ref D), some u, j9, jA] H') ?_ fun N' hN => ?_
        · intro u E H7 fz7 hat7 ow7 au neE lenE memE
          have gf7 := fz7 _ _ kf gf6
          obtain ⟨pu, xu, rfl, hpu, hxu⟩ := id au.list
          have lxu := hxu.len
          have pos : 0 < E.length := List.length_pos_iff.mpr neE
          refine ⟨_, rfl, .inl ⟨rfl, _, .of gf7⟩, _, rfl, _, rfl, _, rfl, _, rfl, pu, xu, rfl, .inl (.of (Hd_some hpu).2), f :: S, a, xu.length, rfl, by omega, by omega, hat7, ow7, fun r H8 hr8 fz8 hat8 ow8 => ?_⟩
          have hpu8 := fz8 _ _ (fun z => (Hd_some hpu).1 (Sa0 _ z)) (Hd_some hpu).2
          have hy : xu[r]? = some xu[r] := List.getElem?_eq_getElem hr8
          obtain ⟨e, he, ae⟩ := hxu.at hy
          have hee := memE e (List.mem_of_getElem? he)
          have oke := ae.2
          rw [ae.str] at hy
          refine ⟨pu, xu, r, _, rfl, rfl, .of hpu8, atI_nat hy, two_line, fun b hb => ?_⟩
          have s9 := same_up (o := .tup [.str (tx n), .str (tx e)]) hb
          have gf8 := fz8 _ _ kf gf7
          have gf9 := s9 _ _ gf8
          have aG8 := (aG6.fz (fz7.more Sa)).fz (fz8.more Sa)
          refine ⟨f, ys, _, rfl, rfl, gf9, by rw [sizeLine_eq]; omega, ⟨_, _, _, _, _, _, rfl⟩, ?_, (hat8.same s9).upd List.mem_cons_self naf, (ow8.same s9).kp .upd, ys ++ [.ref b], N ++ [(n, e)], upd_same, ?_, ?_, by rw [List.length_append, lN]; rfl, fun s hs => ?_⟩
          · exact (((fz16.trans (fz7.more fun b hb => List.mem_cons_of_mem _ hb)).trans (fz8.more fun b hb => List.mem_cons_of_mem _ hb)).trans (.of s9)).trans (fz_upd List.mem_cons_self)
          · rw [← List.append_assoc, hG]
            exact ((aG8.up s9).app (Ats.one (at_newS ow8 hb (name_ok nn) oke))).up1 List.mem_cons_self
          · rw [← List.append_assoc, hG]
            exact step e hee
          · rcases List.mem_append.mp hs with hs | hs
            · exact nN s hs
            · rw [List.mem_singleton.mp hs]; exact nmem
        · refine ⟨_, rfl, f :: S, a, 3, rfl, by decide, by decide, hat6, ow6, fun r H7 hr7 fz7 hat7 ow7 => ⟨rfl, _, rfl, ite2 (fun e => ?_) fun e => ?_⟩⟩
          · have au7 := au0.fz (fz7.more Sa0)
            obtain ⟨pu, xu, rfl, hpu, hxu⟩ := id au7.list
            have lxu := hxu.len
            refine ⟨_, rfl, 1, rfl, _, rfl, pu, xu, rfl, .of (Hd_some hpu).2, fun p2 hp2 => ?_⟩
            rw [show (-1 : Int) = -1 from rfl, cutv_last]
            have s8 := same_up (o := .lst (xu.drop (xu.length - 1))) hp2
            refine hN _ (E0.drop (xu.length - 1)) _ (fz7.trans (.of s8)) (hat7.same s8) (ow7.same s8) (at_new ow7.tail hp2 (hxu.drop _)) ?_ ?_ fun e he => E0mem e (List.mem_of_mem_drop he)
            · intro z
              have : (E0.drop (xu.length - 1)).length = 0 := by rw [z]; rfl
              rw [List.length_drop] at this
              have : 0 < E0.length := List.length_pos_iff.mpr E0ne
              omega
            · rw [List.length_drop]; omega
          · exact hN u0 E0 H7 fz7 hat7 ow7 (au0.fz (fz7.more Sa0)) E0ne E0len E0mem
    · obtain ⟨⟨j5, j6, j7, j8, j9, jA, rfl⟩, fz3, hat3, ow3, ys, N, gf, aG, sp, lN, nN⟩ := hP
      refine ⟨_, rfl, S, _, B ++ N, rfl, .of_list (by rw [Hd_at nfS]; exact gf) aG.out, ow3.tail, fun p xs hp ap => ?_⟩
      refine q _ (Pw.srt (B ++ N)) N _ (by omega) (List.mergeSort_perm _ _) ?_ nN ap ?_ ((hat3.out haS).same (same_up hp)) (ow3.tail.same (same_up hp))
      · intro s hs
        obtain ⟨a1, b1, c1, d1⟩ := sp.mem (fun s => mem_srt) s hs
        exact ⟨a1, b1, by omega, d1⟩
      · exact (((Fz.of s1).trans fz3).drop hf).trans (.of (same_up hp))
end
end Pw
end
section
set_option linter.all false
set_option maxRecDepth 100000
set_option maxHeartbeats 2000000
/-! Law 7: task, free_task. -/
namespace Pw
open PySem PySem.Spec PyProof.Rows L2
/-- membership, by the one instance -/
def memB {α : Type} [DecidableEq α] (x : α) (l : List α) : Bool := decide (x ∈ l)
theorem memB_iff {α : Type} [DecidableEq α] {x : α} {l : List α} : memB x l = true ↔ x ∈ l := decide_eq_true_iff
theorem fil_yes {α : Type} {p : α → Bool} {x : α} (h : p x = true) : [x].filter p = [x] := by simp [h]
theorem fil_no {α : Type} {p : α → Bool} {x : α} (h : p x = false) : [x].filter p = [] := by simp [h]
/-- what a drawn task keeps -/
structure TaskR (st wi : List Spot) : Prop where
  ex : ∃ ns, GrOk ns st ∧ ∀ s ∈ wi, s.1 ∈ ns
  lst : st.length ≤ 24
  sp : SpOk wi 13
  lwi : wi.length ≤ 30
  few : ∃ N : List Spot, N.length ≤ 6 ∧ ∀ s ∈ wi, s ∈ st ∨ s ∈ N
/-- nothing without what is beneath it: those all of whose lower ones are there -/
def lowB (L : List Spot) (s : Spot) : Bool := ((List.range s.2.length).map fun k => memB (s.1, s.2.take k) L).all id
theorem low_sp {L wi : List Spot} {n : Nat} (h : SpOk wi n) (hs : ∀ s ∈ L, s ∈ wi) : SpOk (L.filter (lowB L)) n := fun s hs' => by
  obtain ⟨h1, h2⟩ := List.mem_filter.mp hs'
  obtain ⟨a, b, c, _⟩ := h s (hs s h1)
  refine ⟨a, b, c, fun hne => ?_⟩
  unfold lowB at h2
  rw [List.all_map, List.all_eq_true] at h2
  have pos : 0 < s.2.length := List.length_pos_iff.mpr hne
  have h3 : ∀ k, k < s.2.length → (s.1, s.2.take k) ∈ L := fun k hk => memB_iff.mp (h2 k (List.mem_range.mpr hk))
  rw [List.dropLast_eq_take]
  refine List.mem_filter.mpr ⟨h3 _ (by omega), ?_⟩
  unfold lowB
  rw [List.all_map, List.all_eq_true]
  intro k hk
  have hk := List.mem_range.mp hk
  have hk2 : k < s.2.length - 1 := by
    have : (s.2.take (s.2.length - 1)).length ≤ s.2.length - 1 := by rw [List.length_take]; omega
    have hk' : k < (s.2.take (s.2.length - 1)).length := hk
    omega
  refine memB_iff.mpr ?_
  show (s.1, (s.2.take (s.2.length - 1)).take k) ∈ L
  rw [List.take_take, Nat.min_eq_left (by omega)]
  exact h3 k (by omega)
section
variable {P : Program} {w : World} {K : PySem.W.Frag} {mg : Str → Option Value} {base : Heap}
abbrev s__law_task : Stmt := top 60
theorem sc__law_task : FnScope ["_law_hat_here", "_law_trees", "_law_stood", "_law_more_here", "_law_names_here", "_law_standing", "_law_some", "_law_base", "_law_spot", "_law_wished", "_law_other", "_law_k"] ["_law_hat_here", "_law_trees", "_law_stood", "_law_more_here"] (defScope s__law_task) := ⟨rfl, rfl, rfl, by decide +kernel, rfl, by decide +kernel, by decide +kernel⟩
def spTask : Sp := fun vs H Q _ => ∃ (S : List Addr) (a : Addr), vs = [.ref a, .int 3, .int 7, .int 6] ∧ HatAt K S H a ∧ Own S H ∧ ∀ u v1 v2 st wi H', TaskR st wi → H' u = some (.tup [v1, v2]) → At (Hd S H') eSpots v1 st → At (Hd S H') eSpots v2 wi → Fz [a] H H' → HatAt K S H' a → Own S H' → Q (.ref u) H'
theorem ok__law_task (T : Tx K mg) : FnOk P w K mg base CX0 4 (He.ga K "_law_task") T.fd__law_task ["_law_hat_here", "_law_trees", "_law_stood", "_law_more_here"] (spTask (K := K)) := by
  refine T.F__law_task.ok sc__law_task (fun vs H Q E h => ?_) (fun cdv A outer s H vs Q E hr h => ?_)
  · obtain ⟨S, a, rfl, _⟩ := h; rfl
  · obtain ⟨S, a, rfl, hat, ow, q⟩ := h
    have haS := hat.own
    have hu65 := hu65_of hr
    refine ⟨_, (pss_cons (ps_set (i := 4) sc__law_task.nd rfl (Or.inl rfl) (pe_call (ok__law_names T) (hr.mono (by decide)) rfl T.g__law_names T.F__law_names.kp (b__law_names T) .nil pass0 (pa_cons (pv 0) (pa_cons (pe_op op_add pe_int (pe_call (ok__law_take T) (hr.mono (by decide)) rfl T.g__law_take T.F__law_take.kp (b__law_take T) .nil pass0 (pa_cons (pv 0) (pa_cons (pv 1) pa_nil)))) pa_nil))))
      (pss_cons (ps_set (i := 5) sc__law_task.nd rfl (Or.inl rfl) (pe_call (ok__law_grove T) (hr.mono (by decide)) rfl T.g__law_grove T.F__law_grove.kp (b__law_grove T) .nil pass0 (pa_cons (pv 0) (pa_cons (pv 4) (pa_cons (pv 2) pa_nil)))))
      (pss_cons (ps_set (i := 6) sc__law_task.nd rfl (Or.inl rfl) (pe_slice (k_slL K rfl) (pv 4) po_none (po_some (pe_op op_add pe_int (pe_call (ok__law_take T) (hr.mono (by decide)) rfl T.g__law_take T.F__law_take.kp (b__law_take T) .nil pass0 (pa_cons (pv 0) (pa_cons (pe_callB (k_len K rfl) rfl T.f_len PySem.boot_len (pa_cons (pv 4) pa_nil)) pa_nil)))))))
      (pss_cons (ps_set (i := 7) sc__law_task.nd rfl (Or.inl rfl) (pe_lst pa_nil))
      (pss_cons (ps_for PassesOwn.leaving rfl (k_piL K rfl (pv 5)) (pg_name (i := 8) sc__law_task.nd rfl (Or.inl rfl))
      (pss_one (ps_if (pt_cmpR (k_in K rfl hu65) (pe_ix (k_ixT K rfl) (pv 8) pe_int (fun _ _ => rfl)) (pv 6) (by rfl)) (pss_one (ps_expr (pe_bm PySem.F.plainAttrs_list PySem.F.slot_list_append PySem.F.type_list_append mt_append (pv 7) (pa_cons (pv 8) pa_nil)))) pss_nil)))
      (pss_cons (ps_set (i := 9) sc__law_task.nd rfl (Or.inl rfl) (pe_call (ok__law_more T) (hr.mono (by decide)) rfl T.g__law_more T.F__law_more.kp (b__law_more T) .nil pass0 (pa_cons (pv 0) (pa_cons (pv 7) (pa_cons (pv 6) (pa_cons (pe_call (ok__law_take T) (hr.mono (by decide)) rfl T.g__law_take T.F__law_take.kp (b__law_take T) .nil pass0 (pa_cons (pv 0) (pa_cons (pe_op op_add (pv 3) pe_int) pa_nil))) pa_nil))))))
      (pss_cons (ps_if (pt_cmpR op_eq (pe_call (ok__law_take T) (hr.mono (by decide)) rfl T.g__law_take T.F__law_take.kp (b__law_take T) .nil pass0 (pa_cons (pv 0) (pa_cons pe_int pa_nil))) pe_int (nomark _)) (pss_cons (ps_set (i := 10) sc__law_task.nd rfl (Or.inr rfl) (pe_lc (own := [("_law_spot", 8)]) rfl sc__law_task.nd (k_piL K rfl (pv 9)) (blkOk_by (own := [("_law_spot", 8)]) (N := ["_law_hat_here", "_law_trees", "_law_stood", "_law_more_here", "_law_names_here", "_law_standing", "_law_some", "_law_base", "_law_spot", "_law_wished", "_law_other", "_law_k"]) (sc := (defScope s__law_task)) (by decide +kernel)) (fun _ _ _ _ _ => (pg_name (i := 8) sc__law_task.nd rfl (Or.inl rfl))) (fun _ _ _ _ _ => (pts_one (PW.pt (pw_or (pt_cmpR op_eq (pe_ix (k_ixT K rfl) (pv 8) pe_int (fun _ _ => rfl)) pe_str (nomark _)) (pw_or1 (pt_cmpR op_eq (pe_call (ok__law_take T) (hr.mono (by decide)) rfl T.g__law_take T.F__law_take.kp (b__law_take T) .nil pass0 (pa_cons (pv 0) (pa_cons pe_int pa_nil))) pe_int (nomark _))))))) (fun _ _ _ _ _ => (pv 8))))
      (pss_one (ps_setLc (i := 9) (own := [("_law_spot", 8)]) rfl sc__law_task.nd rfl rfl (sw_true rfl rfl rfl (by decide +kernel)) (k_piL K rfl (pv 10)) (blkOk_by (own := [("_law_spot", 8)]) (N := ["_law_hat_here", "_law_trees", "_law_stood", "_law_more_here", "_law_names_here", "_law_standing", "_law_some", "_law_base", "_law_spot", "_law_wished", "_law_other", "_law_k"]) (sc := (defScope s__law_task)) (by decide +kernel)) (fun _ _ _ _ _ => (pg_name (i := 8) sc__law_task.nd rfl (Or.inr rfl))) (fun _ _ _ _ _ => (pts_one (pt_val (pe_callB (k_all K rfl rfl) rfl T.f_all (by decide +kernel) (pa_cons (pe_lc (own := [("_law_k", 11)]) rfl sc__law_task.nd (pi_range1 (by rfl) T.f_range (pa_cons (pe_callB call_len_str rfl T.f_len PySem.boot_len (pa_cons (pe_ix (k_ixT K rfl) (pv 8) pe_int (fun _ _ => rfl)) pa_nil)) pa_nil)) (blkOk_by (own := [("_law_k", 11)]) (N := ["_law_hat_here", "_law_trees", "_law_stood", "_law_more_here", "_law_names_here", "_law_standing", "_law_some", "_law_base", "_law_spot", "_law_wished", "_law_other", "_law_k"]) (sc := (relS ({ kind := .function, names := [(".0", .local), ("_law_spot", .cell), ("all", .globalImplicit), ("range", .globalImplicit), ("len", .globalImplicit), ("_law_other", .free)], isGenerator := false, isCoroutine := false } : Scope) (defScope s__law_task))) (by decide +kernel)) (fun _ _ _ _ _ => (pg_name (i := 11) sc__law_task.nd rfl (Or.inl rfl))) (fun _ _ _ _ _ => pts_nil) (fun _ _ _ _ _ => (pe_cmpR (k_in K rfl hu65) (pe_tup (pa_cons (pe_ix (k_ixT K rfl) (pv 8) pe_int (fun _ _ => rfl)) (pa_cons (pe_slice sl_str (pe_ix (k_ixT K rfl) (pv 8) pe_int (fun _ _ => rfl)) po_none (po_some (pv 11))) pa_nil))) (pv 10) (by rfl)))) pa_nil))))) (fun _ _ _ _ _ => (pv 8))))) pss_nil)
      (pss_one (ps_ret (pe_tup (pa_cons (pv 5) (pa_cons (pv 9) pa_nil)))))))))))), ?_⟩
    have Sa0 : ∀ b ∈ [a], b ∈ S := sub2 haS
    refine ⟨_, rfl, _, rfl, _, rfl, S, a, 3, rfl, by decide, by decide, hat, ow, fun r1 H1 hr1 fz1 hat1 ow1 => ?_⟩
    refine ⟨_, _, rfl, rfl, S, a, 1 + r1, by show [V.ref a, V.int ((1 : Int) + (r1 : Nat))] = _; rw [show ((1 : Int) + (r1 : Nat)) = ((1 + r1 : Nat) : Int) by omega], by omega, hat1, ow1, fun un ns H2 lns good aN fz2 hat2 ow2 => ?_⟩
    refine ⟨_, rfl, _, rfl, _, rfl, S, a, un, ns, rfl, hat2, ow2, aN, by omega, good, fun us st H3 gr lst aS fz3 hat3 ow3 => ?_⟩
    have fz03 := (fz1.trans fz2).trans fz3
    have aN3 := aN.fz (fz3.more Sa0)
    obtain ⟨pn, xn, rfl, hpn, hxn⟩ := id aN3.list
    have lxn := hxn.len
    refine ⟨_, rfl, _, rfl, _, rfl, pn, xn, rfl, .inl (.of (Hd_some hpn).2), S, a, xn.length, rfl, by omega, by omega, hat3, ow3, fun r4 H4 hr4 fz4 hat4 ow4 => ?_⟩
    have hpn4 := fz4 _ _ (fun z => (Hd_some hpn).1 (Sa0 _ z)) (Hd_some hpn).2
    have aN4 := hxn.fz (fz4.more Sa0)
    refine ⟨_, _, rfl, rfl, _, rfl, pn, xn, rfl, .of hpn4, fun p5 hp5 => ?_⟩
    rw [show (some ((1 : Int) + ((r4 : Nat) : Int))) = some ((1 + r4 : Nat) : Int) from congrArg some (by omega), cutv_hi]
    have s5 := same_up (o := .lst (xn.take (1 + r4))) hp5
    have aM5 : At (Hd S (upd H4 p5 (.lst (xn.take (1 + r4))))) (eList eStr) (.ref p5) (ns.take (1 + r4)) := at_new ow4 hp5 (aN4.take _)
    have mne : ns.take (1 + r4) ≠ [] := fun z => by
      have : (ns.take (1 + r4)).length = 0 := by rw [z]; rfl
      rw [List.length_take] at this
      omega
    have mlen : (ns.take (1 + r4)).length ≤ 3 := by rw [List.length_take]; omega
    have msub : ∀ n ∈ ns.take (1 + r4), n ∈ ns := fun n hn => List.mem_of_mem_take hn
    generalize ns.take (1 + r4) = ms at aM5 mne mlen msub
    have hat5 := hat4.same s5
    have ow5 := ow4.same s5
    have fz05 := (fz03.trans fz4).trans (.of s5)
    have aS5 := (aS.fz (fz4.more Sa0)).up s5
    generalize upd H4 p5 (.lst (xn.take (1 + r4))) = H5 at s5 aM5 hat5 ow5 fz05 aS5
    refine ⟨Nat.zero_le _, fun f hf => ?_⟩
    have s6 := same_up (o := .lst []) hf
    have g6 : upd H5 f (.lst []) f = some (.lst []) := upd_same
    have hat6 := hat5.into s6 hf
    have ow6 : Own (f :: S) (upd H5 f (.lst [])) := own_in ow5 hf
    have naf := hat5.ne hf
    have nfS : f ∉ S := ow5.new hf
    have aS6 : At (Hd (f :: S) (upd H5 f (.lst []))) eSpots us st := aS5.into s6 hf
    have aM6 : At (Hd (f :: S) (upd H5 f (.lst []))) (eList eStr) (.ref p5) ms := aM5.into s6 hf
    generalize upd H5 f (.lst []) = H6 at s6 g6 hat6 ow6 aS6 aM6
    have kf : f ∉ [a] := fun z => naf (List.mem_singleton.mp z)
    obtain ⟨ps, xs, rfl, hps, hxs⟩ := id aS6.list
    refine ⟨_, rfl, ps, rfl, ⟨_, .of (Hd_some hps).2⟩, ?_⟩
    refine forL (A := eSpot) (S := f :: S) (l := st) hps hxs (fun i σ H' => (∃ j8 j9 jA jB : Option V, σ = [some (.ref a), some (.int 3), some (.int 7), some (.int 6), some (.ref pn), some (.ref ps), some (.ref p5), some (.ref f), j8, j9, jA, jB]) ∧ Fz [f] H6 H' ∧ HatAt K (f :: S) H' a ∧ Own (f :: S) H' ∧ ∃ ys, H' f = some (.lst ys) ∧ Ats (Hd (f :: S) H') eSpot ys ((st.take i).filter fun s => memB s.1 ms))
      ⟨⟨_, _, _, _, rfl⟩, .refl, hat6, ow6, [], g6, .nil⟩ (fun i σ H' h => h.2.1.more sub1) (fun i s v σ H7 hi hP av => ?_) (fun σ H7 hP => ?_)
    · obtain ⟨⟨j8, j9, jA, jB, rfl⟩, fz7, hat7, ow7, ys, gf, aB⟩ := hP
      have av' := av
      obtain ⟨t, rfl, ht, w1, w2⟩ := av.spot
      have lys := aB.len
      have lf := List.length_filter_le (fun s : Spot => memB s.1 ms) (st.take i)
      have lt : (st.take i).length ≤ 24 := Nat.le_trans (List.length_take_le' _ _) lst
      refine ⟨_, rfl, t, _, 0, _, rfl, rfl, .of (hd_to _ _ ht), rfl, _, rfl, in_at (A := eStr) (.of_str w1) (aM6.fz (fz7.more sub1)) hd_to ⟨_, rfl, ite2 (fun e => ?_) fun e => ?_⟩⟩
      · refine ⟨_, rfl, .inl ⟨rfl, ys, .of gf⟩, _, rfl, f, ys, _, rfl, rfl, gf, by rw [sizeLine_eq]; omega, ⟨_, _, _, _, rfl⟩, fz7.trans (fz_upd (List.mem_singleton.mpr rfl)), hat7.upd List.mem_cons_self naf, ow7.kp .upd, _, upd_same, ?_⟩
        rw [take_step hi, List.filter_append, fil_yes (p := fun s : Spot => memB s.1 ms) e]
        exact (aB.app (Ats.one av')).up1 List.mem_cons_self
      · refine ⟨⟨_, _, _, _, rfl⟩, fz7, hat7, ow7, ys, gf, ?_⟩
        rw [take_step hi, List.filter_append, fil_no (p := fun s : Spot => memB s.1 ms) (Bool.eq_false_iff.mpr e), List.append_nil]
        exact aB
    · obtain ⟨⟨j8, j9, jA, jB, rfl⟩, fz7, hat7, ow7, ys, gf, aB⟩ := hP
      rw [List.take_length] at aB
      have aB7 : At (Hd S H7) eSpots (.ref f) (st.filter fun s => memB s.1 ms) := .of_list (by rw [Hd_at nfS]; exact gf) aB.out
      have aS7 : At (Hd S H7) eSpots (.ref ps) st := (aS6.fz (fz7.more sub1)).out
      have aM7 : At (Hd S H7) (eList eStr) (.ref p5) ms := (aM6.fz (fz7.more sub1)).out
      have hat7' := hat7.out haS
      have ow7' := ow7.tail
      have fz57 : Fz [a] H5 H7 := (((Fz.of s6).trans fz7).drop hf).more fun b hb => nomatch hb
      have spb : SpOk (st.filter fun s => memB s.1 ms) 7 := fun s hs => by
        obtain ⟨h1, h2⟩ := List.mem_filter.mp hs
        obtain ⟨a1, b1, c1, d1⟩ := gr.sp s h1
        exact ⟨a1, b1, c1, fun z => List.mem_filter.mpr ⟨d1 z, h2⟩⟩
      have lbase : (st.filter fun s => memB s.1 ms).length ≤ 24 := Nat.le_trans (List.length_filter_le _ _) lst
      have rootb : ∀ n ∈ ms, nameB n = true ∧ (n, ([] : W)) ∈ st.filter fun s => memB s.1 ms := fun n hn => ⟨good n (msub n hn), List.mem_filter.mpr ⟨gr.roots n (msub n hn), memB_iff.mpr hn⟩⟩
      refine ⟨_, rfl, _, rfl, _, rfl, _, rfl, _, rfl, _, _, rfl, rfl, S, a, 7, rfl, by decide, by decide, hat7', ow7', fun r8 H8 hr8 fz8 hat8 ow8 => ?_⟩
      refine ⟨S, a, _, _, r8, _, ms, rfl, by omega, hat8, ow8, aB7.fz (fz8.more Sa0), aM7.fz (fz8.more Sa0), mne, mlen, rootb, spb, lbase, fun uw wi N H9 lN pm spw nN aW fz9 hat9 ow9 => ?_⟩
      have aS9 := (aS7.fz (fz8.more Sa0)).fz (fz9.more Sa0)
      have fz09 := ((fz05.trans fz57).trans fz8).trans fz9
      have tr : TaskR st wi := by
        refine ⟨⟨ns, gr, fun s hs => ?_⟩, lst, spw, ?_, N, lN, fun s hs => ?_⟩
        · rcases List.mem_append.mp (pm.mem_iff.mp hs) with h | h
          · exact gr.names s (List.mem_filter.mp h).1
          · exact msub _ (nN s h)
        · rw [pm.length_eq, List.length_append]; omega
        · rcases List.mem_append.mp (pm.mem_iff.mp hs) with h | h
          · exact .inl (List.mem_filter.mp h).1
          · exact .inr h
      dsimp only [gName]
      refine tseq_cut (fun N' => ∀ (uw : V) (wi : List Spot) (H' : Hp) (j8 jA jB : Option V), TaskR st wi → Fz [a] H9 H' → HatAt K S H' a → Own S H' → At (Hd S H') eSpots uw wi → N' [some (.ref a), some (.int 3), some (.int 7), some (.int 6), some (.ref pn), some (.ref ps), some (.ref p5), some (.ref f), j8, some uw, jA, jB] H') ?_ fun N' hN => ?_
      · intro uw wi HA j8 jA jB tr fzA hatA owA aW
        refine ⟨_, rfl, _, rfl, two_line, fun u hu => ?_⟩
        have sB := same_up (o := .tup [.ref ps, uw]) hu
        exact q u _ _ st wi _ tr upd_same ((aS9.fz (fzA.more Sa0)).up sB) (aW.up sB) ((fz09.trans fzA).trans (.of sB)) (hatA.same sB) (owA.same sB)
      · refine ⟨_, rfl, S, a, 4, rfl, by decide, by decide, hat9, ow9, fun rA HA hrA fzA hatA owA => ⟨rfl, _, rfl, ite2 (fun e => ?_) fun e => ?_⟩⟩
        · have aWA := aW.fz (fzA.more Sa0)
          obtain ⟨pw, xw, rfl, hpw, hxw⟩ := id aWA.list
          have lxw := hxw.len
          have lwi := tr.lwi
          refine ⟨_, rfl, pw, rfl, ⟨_, .of (Hd_some hpw).2⟩, fun D hD => ?_⟩
          have nDa := hatA.ne hD
          have kD : D ∉ [a] := fun z => nDa (List.mem_singleton.mp z)
          have kw : pw ∉ [D, a] := fun z => (List.mem_cons.mp z).elim (fun z => by have h := (Hd_some hpw).2; rw [z, hD] at h; cases h) fun z => (Hd_some hpw).1 (Sa0 _ z)
          refine lc_it (walk_list (K := K) (a := pw) (xs := xw)) (fun i H' => Fz [D, a] HA H' ∧ HatAt K (D :: S) H' a ∧ Own (D :: S) H' ∧ ∃ us L, H' D = some (.lst us) ∧ Ats (Hd (D :: S) H') eSpot us L ∧ L.length ≤ i ∧ ∀ s ∈ L, s ∈ wi)
            ⟨(Fz.of (same_up hD)), hatA.into (same_up hD) hD, own_in owA hD, [], [], upd_same, .nil, Nat.zero_le _, fun s h => nomatch h⟩ (fun i H' _ h => .of (h.1 _ _ kw (Hd_some hpw).2)) (fun i x HB HC hi hP hy => ?_) (fun HB hP => ?_)
          · obtain ⟨rfl, hx⟩ := hy
            obtain ⟨fzB, hatB, owB, us, L, gD, aL, lL, mL⟩ := hP
            obtain ⟨s, hs, as0⟩ := hxw.at hx
            have as1 : At (Hd (D :: S) HC) eSpot x s := as0.same (hd_own haS hD fzB)
            obtain ⟨t, rfl, ht, w1, w2⟩ := as1.spot
            have lus := aL.len
            have yes : ∀ HD, Fz [a] HC HD → HatAt K (D :: S) HD a → Own (D :: S) HD → ∃ acc, HD D = some (.lst acc) ∧ acc.length < sizeLine ∧ (Fz [D, a] HA (upd HD D (.lst (acc ++ [.ref t]))) ∧ HatAt K (D :: S) (upd HD D (.lst (acc ++ [.ref t]))) a ∧ Own (D :: S) (upd HD D (.lst (acc ++ [.ref t]))) ∧ ∃ us L, (upd HD D (.lst (acc ++ [.ref t]))) D = some (.lst us) ∧ Ats (Hd (D :: S) (upd HD D (.lst (acc ++ [.ref t])))) eSpot us L ∧ L.length ≤ i + 1 ∧ ∀ s ∈ L, s ∈ wi) := fun HD fzD hatD owD => by
              have Sa1 : ∀ b ∈ [a], b ∈ D :: S := fun b hb => List.mem_cons_of_mem _ (Sa0 b hb)
              refine ⟨us, fzD _ _ kD gD, by rw [sizeLine_eq]; omega, ?_, hatD.upd List.mem_cons_self nDa, owD.kp .upd, us ++ [.ref t], L ++ [s], upd_same, ?_, by rw [List.length_append]; exact Nat.add_le_add_right lL 1, fun y hy => ?_⟩
              · exact (fzB.trans (fzD.more fun b hb => List.mem_cons_of_mem _ hb)).trans (fz_upd List.mem_cons_self)
              · exact ((aL.fz (fzD.more Sa1)).app (Ats.one (as1.fz (fzD.more Sa1)))).up1 List.mem_cons_self
              · rcases List.mem_append.mp hy with hy | hy
                · exact mL y hy
                · rw [List.mem_singleton.mp hy]; exact List.mem_of_getElem? hs
            refine ⟨rfl, _, rfl, t, _, 1, _, rfl, rfl, .of (hd_to _ _ ht), rfl, rfl, _, rfl, ite2 (fun e1 => ?_) fun e1 => ?_⟩
            · exact iteT ⟨_, rfl, yes _ .refl hatB owB⟩
            · refine ⟨_, rfl, D :: S, a, 2, rfl, by decide, by decide, hatB, owB, fun rD HD hrD fzD hatD owD => ⟨rfl, _, rfl, ite2 (fun e2 => ?_) fun e2 => ?_⟩⟩
              · exact ⟨_, rfl, yes _ fzD hatD owD⟩
              · have Sa1 : ∀ b ∈ [a], b ∈ D :: S := fun b hb => List.mem_cons_of_mem _ (Sa0 b hb)
                exact ⟨fzB.trans (fzD.more fun b hb => List.mem_cons_of_mem _ hb), hatD, owD, us, L, fzD _ _ kD gD, aL.fz (fzD.more Sa1), by omega, mL⟩
          · obtain ⟨fzB, hatB, owB, us, L, gD, aL, lL, mL⟩ := hP
            rw [lxw] at lL
            have nDS : D ∉ S := owA.new hD
            have aO : At (Hd S HB) eSpots (.ref D) L := .of_list (by rw [Hd_at nDS]; exact gD) aL.out
            have fz9B : Fz [a] H9 HB := fzA.trans (fzB.drop hD)
            have gO : Hd S HB D = some (.lst us) := by rw [Hd_at nDS]; exact gD
            refine ⟨_, rfl, D, rfl, ⟨_, .of gD⟩, fun D2 hD2 => ?_⟩
            refine lc_at (A := eSpot) (B := eSpot) (S := S) (lowB L) (fun s => s) owB.tail hD2 gO aL.out (by rw [sizeLine_eq]; omega) (fun x hx v HC sC wD ax NF NT k1 k2 => ?_) (fun HC sC aC => ?_)
            · have ax' := ax
              obtain ⟨t, rfl, ht, w1, w2⟩ := ax.spot
              have ht0 := hd_to _ _ ht
              refine ⟨rfl, _, rfl, t, _, 1, _, rfl, rfl, .of ht0, rfl, _, rfl, okW_line w2, (x.2.length : Int), by rw [tx_len], by have := w2.1; omega, by have := w2.1; omega, fun D3 hD3 => ?_⟩
              refine lc_rngV (fun _ => true) (fun k => V.bl (memB (x.1, x.2.take k) L)) hD3 (by have := w2.1; rw [sizeLine_eq]; omega) (fun k hk HE sE NF' NT' j1 j2 => ?_) (fun HE sE hlE => ?_)
              · rw [Int.zero_add]
                refine ⟨rfl, _, rfl, t, _, 0, _, rfl, rfl, .of (sE _ _ ht0), rfl, _, rfl, t, _, 1, _, rfl, rfl, .of (sE _ _ ht0), rfl, _, rfl, _, rfl, _, rfl, okW_line w2, two_line, ?_⟩
                rw [cut_hi]
                intro b hb
                have sF := same_up (o := .tup [.str (tx x.1), .str (tx (x.2.take k))]) hb
                have owE := (wD.same sE)
                exact ⟨_, rfl, in_at (A := eSpot) (Q := fun y H4 => NT' H4 y) (at_newS owE hb w1 (okW_take w2 k)) ((((aO.into sC hD2).up sE).up sF)) hd_to (j2 rfl _ sF)⟩
              · rw [ftrue] at hlE
                refine ⟨D3, (List.range x.2.length).map fun k => memB (x.1, x.2.take k) L, rfl, .of (by rw [hlE, List.map_map]; rfl), _, rfl, ?_⟩
                refine ite2 (fun e3 => ?_) fun e3 => ?_
                · exact ⟨_, rfl, k2 e3 _ _ sE (ax'.up sE)⟩
                · exact k1 (Bool.eq_false_iff.mpr e3) _ sE
            · rw [List.map_id'] at aC
              refine hN _ _ HC _ _ _ ?_ (fz9B.trans (.of sC)) ((hatB.out haS).same sC) (owB.tail.same sC) aC
              obtain ⟨⟨ns', gr', nm⟩, l1, sp, l2, N', lN', few⟩ := tr
              have sub : ∀ s ∈ L.filter (lowB L), s ∈ wi := fun s hs => mL s (List.mem_filter.mp hs).1
              exact ⟨⟨ns', gr', fun s hs => nm s (sub s hs)⟩, l1, low_sp sp mL, Nat.le_trans (List.length_filter_le _ _) (by omega), N', lN', fun s hs => few s (sub s hs)⟩
        · exact hN uw wi HA _ _ _ tr fzA hatA owA (aW.fz (fzA.more Sa0))
end
end Pw
end
section
set_option linter.all false
set_option maxRecDepth 100000
set_option maxHeartbeats 2000000
/-! Law 8: free_task. -/
namespace Pw
open PySem PySem.Spec PyProof.Rows L2
/-- what a drawn free task keeps -/
structure TaskF (st wi : List Spot) : Prop where
  ok : TaskOk st wi
  st24 : st.length ≤ 24
  wi54 : wi.length ≤ 54
  few6 : (lack st wi).length ≤ 6
theorem task_free {st wi M : List Spot} (h : TaskR st wi) (up : Up M) (mem : ∀ x, x ∈ M ↔ x ∈ wi ++ st.filter fun s => memB s.1 (wi.map fun s => s.1)) : TaskF st M := by
  obtain ⟨⟨ns, gr, nm⟩, l1, sp, l2, N, lN, few⟩ := h
  have lf : (st.filter fun s => memB s.1 (wi.map fun s => s.1)).length ≤ 24 := Nat.le_trans (List.length_filter_le _ _) l1
  have lM : M.length ≤ 54 := by
    have := nodup_len up.nodup (m := wi ++ st.filter fun s => memB s.1 (wi.map fun s => s.1)) fun x hx => (mem x).mp hx
    rw [List.length_append] at this
    omega
  have kept : ∀ s ∈ st, s.1 ∈ (wi.map fun s => s.1) → s ∈ M := fun s hs hn => (mem s).mpr (List.mem_append_right _ (List.mem_filter.mpr ⟨hs, memB_iff.mpr hn⟩))
  have named : ∀ s ∈ M, s.1 ∈ wi.map fun s => s.1 := fun s hs => by
    rcases List.mem_append.mp ((mem s).mp hs) with h | h
    · exact List.mem_map.mpr ⟨s, h, rfl⟩
    · exact memB_iff.mp (List.mem_filter.mp h).2
  have lk : (lack st M).length ≤ 6 := by
    refine Nat.le_trans (nodup_len (lack_up st M).nodup (m := N) fun x hx => ?_) lN
    obtain ⟨h1, h2⟩ := mem_lack.mp hx
    rcases List.mem_append.mp ((mem x).mp h1) with h | h
    · exact (few x h).elim (fun z => absurd z h2) id
    · exact absurd (List.mem_filter.mp h).1 h2
  refine ⟨⟨by omega, by omega, gr.sp.good, fun s hs => ?_, fun s hs => ?_, fun s hs hn hne hp => ?_, by omega⟩, l1, lM, lk⟩
  · rcases List.mem_append.mp ((mem s).mp hs) with h | h
    · obtain ⟨a, b, c, d⟩ := sp s h
      exact ⟨a, b, fun z => (mem _).mpr (List.mem_append_left _ (d z))⟩
    · obtain ⟨h1, h2⟩ := List.mem_filter.mp h
      obtain ⟨a, b, c, d⟩ := gr.sp s h1
      exact ⟨a, b, fun z => kept _ (d z) (memB_iff.mp h2)⟩
  · obtain ⟨t, ht, e⟩ := List.mem_map.mp (named s hs)
    exact ⟨(t.1, []), gr.roots _ (nm t ht), e⟩
  · exact hn (kept s hs (named (s.1, s.2.dropLast) hp))
section
variable {P : Program} {w : World} {K : PySem.W.Frag} {mg : Str → Option Value} {base : Heap}
abbrev s__law_free_task : Stmt := top 61
theorem sc__law_free_task : FnScope ["_law_hat_here", "_law_trees", "_law_stood", "_law_more_here", "_law_standing", "_law_wished", "_law_named", "_law_kept", "_law_tree", "_law_word", "_law_spot"] ["_law_hat_here", "_law_trees", "_law_stood", "_law_more_here"] (defScope s__law_free_task) := ⟨rfl, rfl, rfl, by decide +kernel, rfl, by decide +kernel, by decide +kernel⟩
def spFreeTask : Sp := fun vs H Q _ => ∃ (S : List Addr) (a : Addr), vs = [.ref a, .int 3, .int 7, .int 6] ∧ HatAt K S H a ∧ Own S H ∧ ∀ u v1 v2 st wi H', TaskF st wi → H' u = some (.tup [v1, v2]) → At (Hd S H') eSpots v1 st → At (Hd S H') eSpots v2 wi → Fz [a] H H' → HatAt K S H' a → Own S H' → Q (.ref u) H'
theorem ok__law_free_task (T : Tx K mg) : FnOk P w K mg base CX0 5 (He.ga K "_law_free_task") T.fd__law_free_task ["_law_hat_here", "_law_trees", "_law_stood", "_law_more_here"] (spFreeTask (K := K)) := by
  refine T.F__law_free_task.ok sc__law_free_task (fun vs H Q E h => ?_) (fun cdv A outer s H vs Q E hr h => ?_)
  · obtain ⟨S, a, rfl, _⟩ := h; rfl
  · obtain ⟨S, a, rfl, hat, ow, q⟩ := h
    have haS := hat.own
    have hu65 := hu65_of hr
    refine ⟨_, (pss_cons (ps_asg (pe_call (ok__law_task T) (hr.mono (by decide)) rfl T.g__law_task T.F__law_task.kp (b__law_task T) .nil pass0 (pa_cons (pv 0) (pa_cons (pv 1) (pa_cons (pv 2) (pa_cons (pv 3) pa_nil))))) (k_pgT K rfl (n := 2) rfl (pgs_cons (pg_name (i := 4) sc__law_free_task.nd rfl (Or.inl rfl)) (pgs_cons (pg_name (i := 5) sc__law_free_task.nd rfl (Or.inl rfl)) pgs_nil))))
      (pss_cons (ps_set (i := 6) sc__law_free_task.nd rfl (Or.inr rfl) (pe_lc (own := [("_law_tree", 8), ("_law_word", 9)]) rfl sc__law_free_task.nd (k_piL K rfl (pv 5)) (blkOk_by (own := [("_law_tree", 8), ("_law_word", 9)]) (N := ["_law_hat_here", "_law_trees", "_law_stood", "_law_more_here", "_law_standing", "_law_wished", "_law_named", "_law_kept", "_law_tree", "_law_word", "_law_spot"]) (sc := (defScope s__law_free_task)) (by decide +kernel)) (fun _ _ _ _ _ => (k_pgT K rfl (n := 2) rfl (pgs_cons (pg_name (i := 8) sc__law_free_task.nd rfl (Or.inl rfl)) (pgs_cons (pg_name (i := 9) sc__law_free_task.nd rfl (Or.inl rfl)) pgs_nil)))) (fun _ _ _ _ _ => pts_nil) (fun _ _ _ _ _ => (pv 8))))
      (pss_cons (ps_setLc (i := 7) (own := [("_law_spot", 10)]) rfl sc__law_free_task.nd rfl rfl (sw_true rfl rfl rfl (by decide +kernel)) (k_piL K rfl (pv 4)) (blkOk_by (own := [("_law_spot", 10)]) (N := ["_law_hat_here", "_law_trees", "_law_stood", "_law_more_here", "_law_standing", "_law_wished", "_law_named", "_law_kept", "_law_tree", "_law_word", "_law_spot"]) (sc := (defScope s__law_free_task)) (by decide +kernel)) (fun _ _ _ _ _ => (pg_name (i := 10) sc__law_free_task.nd rfl (Or.inl rfl))) (fun _ _ _ _ _ => (pts_one (pt_cmpR (k_in K rfl hu65) (pe_ix (k_ixT K rfl) (pv 10) pe_int (fun _ _ => rfl)) (pv 6) (by rfl)))) (fun _ _ _ _ _ => (pv 10)))
      (pss_one (ps_ret (pe_tup (pa_cons (pv 4) (pa_cons (pe_sortSet (skSpot _ _) in_spot sb_spot rfl hu65 rfl T.f_sorted rfl T.f_set (pe_op op_cat (pv 5) (pv 7))) pa_nil)))))))), ?_⟩
    refine ⟨_, rfl, _, rfl, _, rfl, _, rfl, S, a, rfl, hat, ow, fun u0 v1 v2 st wi H1 tr hu0 av1 av2 fz1 hat1 ow1 => ?_⟩
    refine ⟨u0, _, rfl, .of hu0, rfl, _, _, rfl, _, _, rfl, rfl, ?_⟩
    obtain ⟨p2, x2, rfl, hp2, hx2⟩ := id av2.list
    obtain ⟨p1, x1, rfl, hp1, hx1⟩ := id av1.list
    have lx2 := hx2.len
    have lwi := tr.lwi
    have lst := tr.lst
    refine ⟨_, rfl, p2, rfl, ⟨_, .of (Hd_some hp2).2⟩, fun D hD => ?_⟩
    refine lc_at (A := eSpot) (B := eStr) (S := S) (fun _ => true) (fun s => s.1) ow1 hD hp2 hx2 (by rw [sizeLine_eq]; omega) (fun x hx v H2 s2 wD ax NF NT k1 k2 => ?_) (fun H2 s2 a2 => ?_)
    · obtain ⟨t, rfl, ht, w1, w2⟩ := ax.spot
      refine ⟨t, _, rfl, .of (hd_to _ _ ht), rfl, _, _, rfl, _, _, rfl, rfl, rfl, ?_⟩
      exact ⟨_, rfl, k2 rfl _ _ (.refl _) (.of_str w1)⟩
    · rw [ftrue] at a2
      have hp1' := same_hd s2 _ _ hp1
      refine ⟨_, rfl, p1, rfl, ⟨_, .of (Hd_some hp1').2⟩, fun D2 hD2 => ?_⟩
      refine lc_at (A := eSpot) (B := eSpot) (S := S) (fun s => memB s.1 (wi.map fun s => s.1)) (fun s => s) (ow1.same s2) hD2 hp1' (hx1.up s2) (by rw [sizeLine_eq]; omega) (fun x hx v H3 s3 wD ax NF NT k1 k2 => ?_) (fun H3 s3 a3 => ?_)
      · have ax' := ax
        obtain ⟨t, rfl, ht, w1, w2⟩ := ax.spot
        refine ⟨rfl, _, rfl, t, _, 0, _, rfl, rfl, .of (hd_to _ _ ht), rfl, _, rfl, in_at (A := eStr) (.of_str w1) (a2.up s3) hd_to ⟨_, rfl, ite2 (fun e => ?_) fun e => ?_⟩⟩
        · exact ⟨_, rfl, k2 e _ _ (.refl _) ax'⟩
        · exact k1 (Bool.eq_false_iff.mpr e) _ (.refl _)
      · rw [List.map_id'] at a3
        obtain ⟨pk, xk, ek, hpk, hxk⟩ := id a3.list
        injection ek with ek
        subst ek
        have s13 := s2.trans s3
        have lk := hxk.len
        have lf := List.length_filter_le (fun s : Spot => memB s.1 (wi.map fun s => s.1)) st
        refine ⟨_, rfl, _, rfl, _, rfl, p2, D2, x2, xk, rfl, rfl, s13 _ _ (Hd_some hp2).2, (Hd_some hpk).2, by rw [sizeLine_eq]; omega, fun pq hpq => ?_⟩
        have s4 := same_up (o := .lst (x2 ++ xk)) hpq
        have ow3 := ow1.same s13
        have aq := at_new ow3 hpq ((hx2.up s13).app hxk)
        refine ⟨S, _, aq, ow3.same s4, by rw [List.length_append]; omega, fun pz xs M hpz up mem az => ⟨two_line, fun u hu => ?_⟩⟩
        have s5 := same_up (o := .lst xs) hpz
        have s6 := same_up (o := .tup [.ref p1, .ref pz]) hu
        have s16 := ((s13.trans s4).trans s5).trans s6
        exact q u _ _ st M _ (task_free tr up mem) upd_same (av1.up s16) (az.up s6) (fz1.trans (.of s16)) (hat1.same s16) (ow1.same s16)
end
end Pw
end
section
set_option linter.all false
set_option maxRecDepth 100000
set_option maxHeartbeats 2000000
/-! Law 9: lacking, over, row, bound, fewest. -/
namespace Pw
open PySem PySem.Spec PyProof.Rows L2
theorem starts_tx (a b : W) : Txt.startswith (tx a) (tx b) = decide (a.take b.length = b) := by
  unfold Txt.startswith
  rw [tx_len, tx_len]
  unfold Builtin.Str.subAt
  rw [tx_len, Nat.zero_add]
  have e : ((tx a).cps.extract 0 b.length == (tx b).cps) = decide (a.take b.length = b) := by
    show (a.toArray.extract 0 b.length == b.toArray) = _
    rw [Bool.eq_iff_iff, beq_iff_eq, decide_eq_true_iff]
    constructor
    · intro h
      have := congrArg Array.toList h
      simpa using this
    · intro h
      apply Array.toList_inj.mp
      simpa using h
  rw [e]
  by_cases h : a.take b.length = b
  · rw [decide_eq_true h]
    have : b.length ≤ a.length := by
      have := congrArg List.length h
      rw [List.length_take] at this
      omega
    rw [decide_eq_true this]; rfl
  · rw [decide_eq_false h, Bool.and_false]
def preB (s t : Spot) : Bool := decide (t.1 = s.1) && decide (s.2.take t.2.length = t.2)
theorem over_max {st : List Spot} {s : Spot} (root : (s.1, ([] : W)) ∈ st) {m : Int} (h1 : m ∈ (st.filter (preB s)).map fun t => ((t.2.length : Nat) : Int)) (h2 : ∀ y ∈ (st.filter (preB s)).map fun t => ((t.2.length : Nat) : Int), y ≤ m) : ((s.2.length : Nat) : Int) - m = ((dpS st s : Nat) : Int) := by
  obtain ⟨g1, g2, g3⟩ := dpS_spec root
  have up : ∀ t ∈ st.filter (preB s), t.2.length + dpS st s ≤ s.2.length := fun t ht => by
    obtain ⟨t1, t2⟩ := List.mem_filter.mp ht
    unfold preB at t2
    obtain ⟨e1, e2⟩ := Bool.and_eq_true_iff.mp t2
    have e1 := of_decide_eq_true e1
    have e2 := of_decide_eq_true e2
    have hl : t.2.length ≤ s.2.length := by
      have := congrArg List.length e2
      rw [List.length_take] at this
      omega
    have hc : cutAt s (s.2.length - t.2.length) = t := by
      unfold cutAt
      rw [show s.2.length - (s.2.length - t.2.length) = t.2.length by omega, e2, ← e1]
    rcases Nat.lt_or_ge (s.2.length - t.2.length) (dpS st s) with z | z
    · exact absurd (by rw [hc]; exact t1) (g3 _ z)
    · omega
  have low : ((s.2.length - dpS st s : Nat) : Int) ≤ m := by
    refine h2 _ (List.mem_map.mpr ⟨cutAt s (dpS st s), List.mem_filter.mpr ⟨g2, ?_⟩, ?_⟩)
    · unfold preB cutAt
      rw [decide_eq_true rfl, Bool.true_and, decide_eq_true_iff]
      show s.2.take (s.2.take (s.2.length - dpS st s)).length = s.2.take (s.2.length - dpS st s)
      rw [List.length_take, Nat.min_eq_left (by omega)]
    · unfold cutAt
      rw [List.length_take, Nat.min_eq_left (by omega)]
  obtain ⟨t, ht, rfl⟩ := List.mem_map.mp h1
  have := up t ht
  omega
theorem needS_eq (n k : Nat) (h : 1 ≤ k) : needS n k = n / k + if 0 < n % k then 1 else 0 := by
  unfold needS
  have e := Nat.div_add_mod n k
  have lt := Nat.mod_lt n (show 0 < k by omega)
  generalize n / k = q at e
  generalize n % k = r at e lt
  subst e
  by_cases z : 0 < r
  · rw [if_pos z, show k * q + r + k - 1 = k * (q + 1) + (r - 1) by rw [Nat.mul_add]; omega, Nat.mul_add_div (by omega), Nat.div_eq_of_lt (by omega), Nat.add_zero]
  · rw [if_neg z, show k * q + r + k - 1 = k * q + (k - 1) by omega, Nat.mul_add_div (by omega), Nat.div_eq_of_lt (by omega)]
section
variable {P : Program} {w : World} {K : PySem.W.Frag} {mg : Str → Option Value} {base : Heap}
abbrev s__law_lacking : Stmt := top 55
theorem sc__law_lacking : FnScope ["_law_standing", "_law_wished", "_law_spot"] ["_law_standing", "_law_wished"] (defScope s__law_lacking) := ⟨rfl, rfl, rfl, by decide +kernel, rfl, by decide +kernel, by decide +kernel⟩
abbrev s__law_over : Stmt := top 56
theorem sc__law_over : FnScope ["_law_standing", "_law_spot", "_law_tree", "_law_word", "_law_tall", "_law_name", "_law_one"] ["_law_standing", "_law_spot"] (defScope s__law_over) := ⟨rfl, rfl, rfl, by decide +kernel, rfl, by decide +kernel, by decide +kernel⟩
abbrev s__law_row : Stmt := top 57
theorem sc__law_row : FnScope ["_law_standing", "_law_wished", "_law_over_here", "_law_spot", "_law_tall", "_law_one"] ["_law_standing", "_law_wished"] (defScope s__law_row) := ⟨rfl, rfl, rfl, by decide +kernel, rfl, by decide +kernel, by decide +kernel⟩
abbrev s__law_bound : Stmt := top 58
theorem sc__law_bound : FnScope ["_law_row_here", "_law_sap", "_law_tall"] ["_law_row_here", "_law_sap", "_law_tall"] (defScope s__law_bound) := ⟨rfl, rfl, rfl, by decide +kernel, rfl, by decide +kernel, by decide +kernel⟩
abbrev s__law_fewest : Stmt := top 59
theorem sc__law_fewest : FnScope ["_law_row_here", "_law_sap", "_law_tall"] ["_law_row_here", "_law_sap"] (defScope s__law_fewest) := ⟨rfl, rfl, rfl, by decide +kernel, rfl, by decide +kernel, by decide +kernel⟩
def spLLacking : Sp := fun vs H Q _ => ∃ (S : List Addr) (v v2 : V) (st wi : List Spot), vs = [v, v2] ∧ At (Hd S H) eSpots v st ∧ At (Hd S H) eSpots v2 wi ∧ Own S H ∧ st.length < 64 ∧ wi.length < 64 ∧ ∀ u H', Same H H' → At (Hd S H') eSpots u (lack st wi) → Q u H'
theorem ok__law_lacking (T : Tx K mg) : FnOk P w K mg base CX0 1 (He.ga K "_law_lacking") T.fd__law_lacking ["_law_standing", "_law_wished"] spLLacking := by
  refine T.F__law_lacking.ok sc__law_lacking (fun vs H Q E h => ?_) (fun cdv A outer s H vs Q E hr h => ?_)
  · obtain ⟨S, v, v2, st, wi, rfl, _⟩ := h; rfl
  · obtain ⟨S, v, v2, st, wi, rfl, hv, hv2, ow, hl1, hl2, q⟩ := h
    have hu65 := hu65_of hr
    refine ⟨_, (pss_one (ps_ret (pe_lc (own := [("_law_spot", 2)]) rfl sc__law_lacking.nd (k_piL K rfl (pe_sortSet (skSpot _ _) in_spot sb_spot rfl hu65 rfl T.f_sorted rfl T.f_set (pv 1))) (blkOk_by (own := [("_law_spot", 2)]) (N := ["_law_standing", "_law_wished", "_law_spot"]) (sc := (defScope s__law_lacking)) (by decide +kernel)) (fun _ _ _ _ _ => (pg_name (i := 2) sc__law_lacking.nd rfl (Or.inl rfl))) (fun _ _ _ _ _ => (pts_one (pt_cmpR (k_notIn K rfl hu65) (pv 2) (pv 0) (by rfl)))) (fun _ _ _ _ _ => (pv 2))))), ?_⟩
    refine ⟨_, rfl, S, wi, hv2, ow, hl2, fun p3 xs3 M hp3 up mem3 am => ?_⟩
    rw [uniq_of up mem3] at am
    have sm3 : Same H (upd H p3 (.lst xs3)) := same_up hp3
    have ow3 := ow.same sm3
    generalize upd H p3 (.lst xs3) = H3 at am sm3 ow3
    obtain ⟨p4, xs4, e4, hp4, hx4⟩ := id am.list
    cases e4
    refine ⟨p3, rfl, ⟨_, .of (Hd_some hp4).2⟩, fun D5 hD5 => ?_⟩
    have ul : (uniq wi).length ≤ wi.length := nodup_len (uniq_up wi).nodup fun x hx => mem_uniq.mp hx
    refine lc_at (A := eSpot) (B := eSpot) (S := S) (fun s => !memB s st) (fun s => s) ow3 hD5 hp4 hx4 (by rw [sizeLine_eq]; omega) (fun x hx1 v H5 sm5 wD av NF NT k1 k2 => ?_) (fun H5 sm5 a5 => ?_)
    · refine ⟨rfl, _, rfl, _, rfl, notin_at (A := eSpot) av ((hv.up sm3).into sm5 hD5) hd_to ⟨_, rfl, ite2 (fun e => ?_) fun e => ?_⟩⟩
      · exact ⟨_, rfl, k2 e _ _ (.refl _) av⟩
      · exact k1 (Bool.eq_false_iff.mpr e) _ (.refl _)
    · rw [List.map_id'] at a5
      have e : (uniq wi).filter (fun s => !memB s st) = lack st wi := List.filter_congr fun s _ => by
        show (!memB s st) = !decide (s ∈ st)
        by_cases z : s ∈ st
        · rw [memB_iff.mpr z, decide_eq_true z]
        · rw [Bool.eq_false_iff.mpr (fun y => z (memB_iff.mp y)), decide_eq_false z]
      rw [e] at a5
      exact q _ _ (sm3.trans sm5) a5
def spLOver : Sp := fun vs H Q _ => ∃ (S : List Addr) (v v2 : V) (st : List Spot) (s : Spot), vs = [v, v2] ∧ At (Hd S H) eSpots v st ∧ At (Hd S H) eSpot v2 s ∧ Own S H ∧ st.length < 64 ∧ (s.1, ([] : W)) ∈ st ∧ ∀ H', Same H H' → Q (.int (dpS st s : Nat)) H'
theorem ok__law_over (T : Tx K mg) : FnOk P w K mg base CX0 1 (He.ga K "_law_over") T.fd__law_over ["_law_standing", "_law_spot"] spLOver := by
  refine T.F__law_over.ok sc__law_over (fun vs H Q E h => ?_) (fun cdv A outer s0 H vs Q E hr h => ?_)
  · obtain ⟨S, v, v2, st, s, rfl, _⟩ := h; rfl
  · obtain ⟨S, v, v2, st, s, rfl, hv, hv2, ow, hl1, root, q⟩ := h
    have hu65 := hu65_of hr
    refine ⟨_, (pss_cons (ps_asg (pv 1) (k_pgT K rfl (n := 2) rfl (pgs_cons (pg_name (i := 2) sc__law_over.nd rfl (Or.inr rfl)) (pgs_cons (pg_name (i := 3) sc__law_over.nd rfl (Or.inr rfl)) pgs_nil))))
      (pss_cons (ps_setLc (i := 4) (own := [("_law_name", 5), ("_law_one", 6)]) rfl sc__law_over.nd rfl rfl (sw_true rfl rfl rfl (by decide +kernel)) (k_piL K rfl (pv 0)) (blkOk_by (own := [("_law_name", 5), ("_law_one", 6)]) (N := ["_law_standing", "_law_spot", "_law_tree", "_law_word", "_law_tall", "_law_name", "_law_one"]) (sc := (defScope s__law_over)) (by decide +kernel)) (fun _ _ _ _ _ => (k_pgT K rfl (n := 2) rfl (pgs_cons (pg_name (i := 5) sc__law_over.nd rfl (Or.inl rfl)) (pgs_cons (pg_name (i := 6) sc__law_over.nd rfl (Or.inl rfl)) pgs_nil)))) (fun _ _ _ _ _ => (pts_one (PW.pt (pw_and (pt_cmpR op_eq (pv 5) (pv 2) (nomark _)) (pw_and1 (pt_val (pe_m1 PySem.F.slot_str_startswith PySem.F.type_str_startswith mt_startswith (pv 3) (pv 6)))))))) (fun _ _ _ _ _ => (pe_callB call_len_str rfl T.f_len PySem.boot_len (pa_cons (pv 6) pa_nil))))
      (pss_one (ps_ret (pe_op op_sub (pe_callB call_len_str rfl T.f_len PySem.boot_len (pa_cons (pv 3) pa_nil)) (pe_callB (k_max K rfl rfl) rfl T.f_max (by decide +kernel) (pa_cons (pv 4) pa_nil))))))), ?_⟩
    obtain ⟨t0, rfl, ht0, w01, w02⟩ := hv2.spot
    obtain ⟨p, xs, rfl, hp, hx⟩ := id hv.list
    refine ⟨_, rfl, t0, _, rfl, .of (hd_to _ _ ht0), rfl, _, _, rfl, _, _, rfl, rfl, ?_⟩
    refine ⟨_, rfl, p, rfl, ⟨_, .of (Hd_some hp).2⟩, fun D hD => ?_⟩
    refine lc_atV (A := eSpot) (S := S) (preB s) (fun t => .int (t.2.length : Nat)) hD hp hx (by rw [sizeLine_eq]; omega) (fun x hx1 v H1 sm av NF NT k1 k2 => ?_) (fun H1 sm hl => ?_)
    · obtain ⟨t, rfl, ht, w1, w2⟩ := av.spot
      refine ⟨t, _, rfl, .of (hd_to _ _ ht), rfl, _, _, rfl, _, _, rfl, rfl, rfl, ?_⟩
      have pe : preB s x = (decide (x.1 = s.1) && decide (s.2.take x.2.length = x.2)) := rfl
      refine ⟨_, rfl, _, rfl, rfl, _, rfl, ite2 (fun e => ?_) fun e => ?_⟩
      · have e1 := tx_inj (V.str.inj (of_decide_eq_true e))
        rw [decide_eq_true e1, Bool.true_and] at pe
        refine ⟨_, rfl, ⟨_, rfl⟩, _, rfl, tx s.2, tx x.2, rfl, rfl, _, rfl, ?_⟩
        rw [starts_tx]
        refine ite2 (fun e2 => ?_) fun e2 => ?_
        · refine ⟨_, rfl, _, rfl, okW_line w2, ?_⟩
          rw [tx_len]
          exact k2 (pe.trans e2) _ (.refl _)
        · exact k1 (pe.trans (Bool.eq_false_iff.mpr e2)) _ (.refl _)
      · have e1 : ¬ x.1 = s.1 := fun z => e (decide_eq_true (by rw [z]))
        rw [decide_eq_false e1, Bool.false_and] at pe
        exact iteF (k1 pe _ (.refl _))
    · refine ⟨_, rfl, _, rfl, okW_line w02, _, rfl, D, (st.filter (preB s)).map fun t => ((t.2.length : Nat) : Int), rfl, .of (by rw [hl, List.map_map]; rfl), ?_, fun m h1 h2 => ⟨_, _, rfl, rfl, ?_⟩⟩
      · rw [List.length_map]
        refine List.length_pos_of_mem (a := (s.1, ([] : W))) (List.mem_filter.mpr ⟨root, ?_⟩)
        unfold preB
        rw [decide_eq_true rfl, Bool.true_and]
        rfl
      · have := over_max root h1 h2
        rw [tx_len]
        show Q (.int (((s.2.length : Nat) : Int) - m)) H1
        rw [this]
        exact q _ sm
def spLRow : Sp := fun vs H Q _ => ∃ (S : List Addr) (v v2 : V) (st wi : List Spot), vs = [v, v2] ∧ At (Hd S H) eSpots v st ∧ At (Hd S H) eSpots v2 wi ∧ Own S H ∧ TaskOk st wi ∧ ∀ u H', Same H H' → At (Hd S H') (eList eNat) u (rowT st wi) → Q u H'
theorem ok__law_row (T : Tx K mg) : FnOk P w K mg base CX0 2 (He.ga K "_law_row") T.fd__law_row ["_law_standing", "_law_wished"] spLRow := by
  refine T.F__law_row.ok sc__law_row (fun vs H Q E h => ?_) (fun cdv A outer s0 H vs Q E hr h => ?_)
  · obtain ⟨S, v, v2, st, wi, rfl, _⟩ := h; rfl
  · obtain ⟨S, v, v2, st, wi, rfl, hv, hv2, ow, tk, q⟩ := h
    have hu65 := hu65_of hr
    refine ⟨_, (pss_cons (ps_set (i := 2) sc__law_row.nd rfl (Or.inr rfl) (pe_lc (own := [("_law_spot", 3)]) rfl sc__law_row.nd (k_piL K rfl (pe_call (ok__law_lacking T) (hr.mono (by decide)) rfl T.g__law_lacking T.F__law_lacking.kp (b__law_lacking T) .nil pass0 (pa_cons (pv 0) (pa_cons (pv 1) pa_nil)))) (blkOk_by (own := [("_law_spot", 3)]) (N := ["_law_standing", "_law_wished", "_law_over_here", "_law_spot", "_law_tall", "_law_one"]) (sc := (defScope s__law_row)) (by decide +kernel)) (fun _ _ _ _ _ => (pg_name (i := 3) sc__law_row.nd rfl (Or.inl rfl))) (fun _ _ _ _ _ => pts_nil) (fun _ _ _ _ _ => (pe_call (ok__law_over T) (hr.mono (by decide)) rfl T.g__law_over T.F__law_over.kp (b__law_over T) .nil pass0 (pa_cons (pv 0) (pa_cons (pv 3) pa_nil))))))
      (pss_one (ps_ret (pe_lc (own := [("_law_tall", 4)]) rfl sc__law_row.nd (pi_range1 (by rfl) T.f_range (pa_cons (pe_callBK (k_max0 K rfl rfl hu65) rfl T.f_max (by decide +kernel) (pa_cons (pv 2) pa_nil) (pk_cons pe_int pk_nil)) pa_nil)) (blkOk_by (own := [("_law_tall", 4)]) (N := ["_law_standing", "_law_wished", "_law_over_here", "_law_spot", "_law_tall", "_law_one"]) (sc := (defScope s__law_row)) (by decide +kernel)) (fun _ _ _ _ _ => (pg_name (i := 4) sc__law_row.nd rfl (Or.inr rfl))) (fun _ _ _ _ _ => pts_nil) (fun _ _ _ _ _ => (pe_callB (k_len K rfl) rfl T.f_len PySem.boot_len (pa_cons (pe_lc (own := [("_law_one", 5)]) rfl sc__law_row.nd (k_piL K rfl (pv 2)) (blkOk_by (own := [("_law_one", 5)]) (N := ["_law_standing", "_law_wished", "_law_over_here", "_law_spot", "_law_tall", "_law_one"]) (sc := (relS ({ kind := .function, names := [(".0", .local), ("_law_tall", .cell), ("len", .globalImplicit), ("_law_over_here", .free)], isGenerator := false, isCoroutine := false } : Scope) (defScope s__law_row))) (by decide +kernel)) (fun _ _ _ _ _ => (pg_name (i := 5) sc__law_row.nd rfl (Or.inl rfl))) (fun _ _ _ _ _ => (pts_one (pt_cmpR op_gt (pv 5) (pv 4) (nomark _)))) (fun _ _ _ _ _ => (pv 5))) pa_nil))))))), ?_⟩
    refine ⟨_, rfl, _, rfl, S, v, v2, st, wi, rfl, hv, hv2, ow, tk.l1, tk.l2, fun u H1 sm1 au => ?_⟩
    obtain ⟨p, xs, rfl, hp, hx⟩ := id au.list
    have few := tk.few
    have ow1 := ow.same sm1
    refine ⟨p, rfl, ⟨_, .of (Hd_some hp).2⟩, fun D hD => ?_⟩
    refine lc_at (A := eSpot) (B := eNat) (S := S) (fun _ => true) (dpS st) ow1 hD hp hx (by rw [sizeLine_eq]; omega) (fun x hx1 v3 H2 sm2 wD ax NF NT k1 k2 => ?_) (fun H2 sm2 a2 => ?_)
    · exact ⟨rfl, _, rfl, _, rfl, S, v, v3, st, x, rfl, hv.up (sm1.trans sm2), ax.out, ow1.same sm2, tk.l1, tk.roots x hx1, fun H3 sm3 => k2 rfl _ _ sm3 .of_nat⟩
    · rw [ftrue] at a2
      have hf : ∀ d ∈ (lack st wi).map (dpS st), d ≤ 16 := fun d hd => by
        obtain ⟨s, hs, rfl⟩ := List.mem_map.mp hd
        exact tk.dep s hs
      have hnl : ((lack st wi).map (dpS st)).length ≤ 10 := by rw [List.length_map]; exact few
      have e0 : rowT st wi = rowS ((lack st wi).map (dpS st)) := rfl
      rw [e0] at q
      generalize (lack st wi).map (dpS st) = ns at a2 q hf hnl
      obtain ⟨D', ys, e1, hD', hy⟩ := id a2.list
      cases e1
      obtain rfl := nats_of hy
      have hmx : maxl ns ≤ 16 := by
        rcases Nat.eq_zero_or_pos (maxl ns) with z | z
        · omega
        · exact hf _ (maxl_mem z)
      refine ⟨_, rfl, D, ns, rfl, rfl, .of (Hd_some hD').2, maxl ns, rfl, by omega, by omega, fun D2 hD2 => ?_⟩
      rw [show ((maxl ns : Nat) : Int).toNat = maxl ns by omega]
      have ow2 := ow1.same sm2
      refine lc_rng (B := eNat) (fun _ => true) (fun h => (ns.filter fun d => decide (h < d)).length) ow2 hD2 (by rw [sizeLine_eq]; omega) (fun i hi H3 sm wD NF NT k1 k2 => ?_) (fun H3 sm a => ?_)
      · refine ⟨rfl, ?_⟩
        refine ⟨_, rfl, D, rfl, ⟨_, .of (sm _ _ (Hd_some hD').2)⟩, fun D3 hD3 => ?_⟩
        refine lc_atV (A := eNat) (S := S) (fun d => decide (i < d)) (fun d => .int (d : Nat)) hD3 (same_hd sm _ _ hD') (hy.up sm) (by rw [sizeLine_eq]; omega) (fun x hx1 v H4 sm4 av NF' NT' j1 j2 => ?_) (fun H4 sm4 hl => ?_)
        · refine ⟨rfl, ?_⟩
          obtain rfl := av.nat
          refine ⟨_, rfl, _, rfl, x, (0 : Int) + i, rfl, rfl, _, rfl, ite2 (fun e => ?_) fun e => ?_⟩
          · exact ⟨_, rfl, j2 (decide_eq_true (by have := of_decide_eq_true e; omega)) _ (.refl _)⟩
          · exact j1 (decide_eq_false fun z => e (decide_eq_true (by omega))) _ (.refl _)
        · refine ⟨D3, _, rfl, .inl (.of hl), ?_⟩
          rw [List.length_map]
          exact k2 rfl _ _ sm4 .of_nat
      · rw [ftrue] at a
        exact q _ _ ((sm1.trans sm2).trans sm) a
def spLBound : Sp := fun vs H Q _ => ∃ (S : List Addr) (v : V) (row : List Nat) (k h : Nat), vs = [v, .int k, .int h] ∧ At (Hd S H) (eList eNat) v row ∧ 1 ≤ k ∧ k ≤ 300 ∧ Q (.int (bndAt row k h : Nat)) H
theorem ok__law_bound (T : Tx K mg) : FnOk P w K mg base CX0 1 (He.ga K "_law_bound") T.fd__law_bound ["_law_row_here", "_law_sap", "_law_tall"] spLBound := by
  refine T.F__law_bound.ok sc__law_bound (fun vs H Q E h => ?_) (fun cdv A outer s0 H vs Q E hr h => ?_)
  · obtain ⟨S, v, row, k, h, rfl, _⟩ := h; rfl
  · obtain ⟨S, v, row, k, h, rfl, hv, h0, h1, q⟩ := h
    refine ⟨_, (pss_cons (ps_if (pt_cmpR op_ge (pv 2) (pe_callB (k_len K rfl) rfl T.f_len PySem.boot_len (pa_cons (pv 0) pa_nil)) (nomark _)) (pss_one (ps_ret pe_int)) pss_nil)
      (pss_cons (ps_if (pt_cmpR op_eq (pv 1) pe_int (nomark _)) (pss_one (ps_ret pe_non)) pss_nil)
      (pss_one (ps_ret (pe_op op_add (pe_op op_add (pv 2) (pe_op op_fdiv (pe_ix (k_ixL K rfl) (pv 0) (pv 2) (fun _ _ => rfl)) (pv 1))) (pe_callTy call_int1 rfl T.f_int (by decide +kernel) (pa_cons (pe_cmpR op_gt (pe_op op_mod (pe_ix (k_ixL K rfl) (pv 0) (pv 2) (fun _ _ => rfl)) (pv 1)) pe_int (nomark _)) pa_nil))))))), ?_⟩
    obtain ⟨p, xs, rfl, hp, hx⟩ := hv.list
    have hl := hx.len
    refine ⟨_, rfl, _, rfl, p, xs, rfl, .inl (.of (Hd_some hp).2), h, xs.length, rfl, rfl, _, rfl, ite2 (fun e => ?_) fun e => ?_⟩
    · have e := of_decide_eq_true e
      have en : row[h]? = none := List.getElem?_eq_none_iff.mpr (by omega)
      unfold bndAt at q
      rw [en] at q
      exact q
    · have e2 : h < row.length := by
        rcases Nat.lt_or_ge h row.length with z | z
        · exact z
        · exact absurd (decide_eq_true (by omega)) e
      have en : row[h]? = some row[h] := List.getElem?_eq_getElem e2
      obtain ⟨w, hw, aw⟩ := hx.to en
      rw [aw.nat] at hw
      unfold bndAt at q
      rw [en] at q
      generalize row[h] = n at q hw
      have q' : Q (.int ((h : Int) + (n : Int) / (k : Int) + if (decide ((0 : Int) < (n : Int) % (k : Int))) = true then 1 else 0)) H := by
        have q : Q (.int ((h + needS n k : Nat) : Int)) H := q
        rw [needS_eq n k h0] at q
        have e : ((h : Int) + (n : Int) / (k : Int) + if (decide ((0 : Int) < (n : Int) % (k : Int))) = true then 1 else 0) = ((h + (n / k + if 0 < n % k then 1 else 0) : Nat) : Int) := by
          have c : (0 : Int) < (n : Int) % (k : Int) ↔ 0 < n % k := by
            rw [show (n : Int) % (k : Int) = ((n % k : Nat) : Int) from (Int.natCast_emod n k).symm]
            omega
          have c2 : (n : Int) / (k : Int) = ((n / k : Nat) : Int) := (Int.natCast_ediv n k).symm
          rw [c2]
          by_cases z : 0 < n % k
          · rw [if_pos z, if_pos (decide_eq_true (c.mpr z))]; omega
          · rw [if_neg z, if_neg (fun y => z (c.mp (of_decide_eq_true y)))]; omega
        rw [e]; exact q
      refine ⟨_, rfl, rfl, _, rfl, ite2 (fun e => ?_) fun e => ?_⟩
      · have e1 : (k : Int) = 0 := V.int.inj (of_decide_eq_true e)
        omega
      · refine ⟨_, rfl, _, rfl, _, rfl, p, xs, h, _, rfl, rfl, .of (Hd_some hp).2, atI_nat hw, _, rfl, _, _, rfl, rfl, ⟨by omega, by omega⟩, _, _, rfl, rfl, ?_⟩
        refine ⟨_, rfl, _, rfl, p, xs, h, _, rfl, rfl, .of (Hd_some hp).2, atI_nat hw, _, rfl, _, _, rfl, rfl, (by show (0 : Int) < (k : Int); omega), _, _, rfl, rfl, .inr ⟨_, rfl, _, _, rfl, rfl, q'⟩⟩
def spLFewest : Sp := fun vs H Q _ => ∃ (S : List Addr) (v : V) (row : List Nat) (k : Nat), vs = [v, .int k] ∧ At (Hd S H) (eList eNat) v row ∧ Own S H ∧ row.length ≤ 1000 ∧ 1 ≤ k ∧ k ≤ 300 ∧ ∀ H', Same H H' → Q (.int (maxl (bnds row k) : Nat)) H'
theorem ok__law_fewest (T : Tx K mg) : FnOk P w K mg base CX0 2 (He.ga K "_law_fewest") T.fd__law_fewest ["_law_row_here", "_law_sap"] spLFewest := by
  refine T.F__law_fewest.ok sc__law_fewest (fun vs H Q E h => ?_) (fun cdv A outer s0 H vs Q E hr h => ?_)
  · obtain ⟨S, v, row, k, rfl, _⟩ := h; rfl
  · obtain ⟨S, v, row, k, rfl, hv, ow, hl, h0, h1, q⟩ := h
    have hu65 := hu65_of hr
    refine ⟨_, (pss_cons (ps_if (PW.pt (pw_and (pt_cmpR op_gt (pe_callB (k_len K rfl) rfl T.f_len PySem.boot_len (pa_cons (pv 0) pa_nil)) pe_int (nomark _)) (pw_and1 (pt_cmpR op_eq (pv 1) pe_int (nomark _))))) (pss_one (ps_ret pe_non)) pss_nil)
      (pss_one (ps_ret (pe_callBK (k_max0 K rfl rfl hu65) rfl T.f_max (by decide +kernel) (pa_cons (pe_lc (own := [("_law_tall", 2)]) rfl sc__law_fewest.nd (pi_range1 (by rfl) T.f_range (pa_cons (pe_callB (k_len K rfl) rfl T.f_len PySem.boot_len (pa_cons (pv 0) pa_nil)) pa_nil)) (blkOk_by (own := [("_law_tall", 2)]) (N := ["_law_row_here", "_law_sap", "_law_tall"]) (sc := (defScope s__law_fewest)) (by decide +kernel)) (fun _ _ _ _ _ => (pg_name (i := 2) sc__law_fewest.nd rfl (Or.inl rfl))) (fun _ _ _ _ _ => pts_nil) (fun _ _ _ _ _ => (pe_call (ok__law_bound T) (hr.mono (by decide)) rfl T.g__law_bound T.F__law_bound.kp (b__law_bound T) .nil pass0 (pa_cons (pv 0) (pa_cons (pv 1) (pa_cons (pv 2) pa_nil)))))) pa_nil) (pk_cons pe_int pk_nil))))), ?_⟩
    obtain ⟨p, xs, rfl, hp, hx⟩ := id hv.list
    have hlx := hx.len
    have rest : tRet (tCKw (rMax0 K)
        (tCons
          (tLc (iRng1 (tCons (tCB (rLen K) (tCons (tVar 0) tNil)) tNil)) (gName 2) tYes
            (tCall spLBound [] E0 (tCons (tVar 0) (tCons (tVar 1) (tCons (tVar 2) tNil))))
            (List.map (fun x => x.snd) [(Str.ofString "_law_tall", 2)]))
          tNil)
        (tCons (tC (V.int 0)) tNil)) { nx := fun _ H' => Q .non H', rt := Q } (start ["_law_row_here", "_law_sap", "_law_tall"] [V.ref p, V.int (k : Nat)]) H := by
      refine ⟨_, rfl, p, xs, rfl, .inl (.of (Hd_some hp).2), xs.length, rfl, by omega, by omega, fun D hD => ?_⟩
      rw [show ((xs.length : Nat) : Int).toNat = row.length by omega]
      refine lc_rng (B := eNat) (fun _ => true) (fun h => bndAt row k h) ow hD (by rw [sizeLine_eq]; omega) (fun i hi H1 sm wD NF NT k1 k2 => ?_) (fun H1 sm a => ?_)
      · exact ⟨rfl, _, rfl, _, rfl, _, rfl, D :: S, _, row, k, i, by rw [Int.zero_add]; rfl, hv.into sm hD, h0, h1, k2 rfl _ _ (.refl _) .of_nat⟩
      · rw [ftrue] at a
        obtain ⟨D', ys, e1, hD', hy⟩ := id a.list
        cases e1
        obtain rfl := nats_of hy
        exact ⟨D, bnds row k, rfl, rfl, .of (Hd_some hD').2, q _ sm⟩
    refine ⟨_, rfl, p, xs, rfl, .inl (.of (Hd_some hp).2), _, _, rfl, rfl, _, rfl, ite2 (fun e => ?_) fun e => iteF rest⟩
    refine ⟨_, rfl, rfl, _, rfl, ite2 (fun e => ?_) fun e => rest⟩
    have e1 : (k : Int) = 0 := V.int.inj (of_decide_eq_true e)
    omega
end
end Pw
end
section
set_option linter.all false
set_option maxRecDepth 100000
set_option maxHeartbeats 2000000
/-! Law 10: lots, ready, all_plans, all_quickest. -/
namespace Pw
open PySem PySem.Spec PyProof.Rows L2
abbrev ePlans : Enc (List (List (List Spot))) := eList ePl
theorem flat_len {α β : Type} {F : α → List β} {c : Nat} : ∀ {l : List α}, (∀ x ∈ l, (F x).length ≤ c) → (l.flatMap F).length ≤ l.length * c
  | [], _ => Nat.zero_le _
  | x :: l, h => by
    have ih := flat_len (l := l) fun y hy => h y (List.mem_cons_of_mem _ hy)
    have hx := h x List.mem_cons_self
    rw [List.flatMap_cons, List.length_append, List.length_cons, Nat.succ_mul]
    omega
theorem flat_take {α β : Type} (F : α → List β) (l : List α) (j : Nat) : ((l.take j).flatMap F).length ≤ (l.flatMap F).length := by
  conv => rhs; rw [← List.take_append_drop j l, List.flatMap_append, List.length_append]
  exact Nat.le_add_right _ _
def tri : Nat → Nat
  | 0 => 0
  | n + 1 => tri n + (n + 1)
theorem tri_mono : ∀ {n m : Nat}, n ≤ m → tri n ≤ tri m
  | n, 0, h => by rw [Nat.le_zero.mp h]; exact Nat.le_refl _
  | n, m + 1, h => by
    rcases Nat.lt_or_ge n (m + 1) with z | z
    · exact Nat.le_trans (tri_mono (Nat.le_of_lt_succ z)) (Nat.le_add_right _ _)
    · rw [Nat.le_antisymm h z]; exact Nat.le_refl _
theorem plans_len (k : Nat) : ∀ (m : Nat) {st left : List Spot}, Up left → (plans parS k m st left).length ≤ 2 ^ tri left.length
  | 0, st, left, _ => by
    rw [plans_zero]
    split
    · exact Nat.one_le_two_pow
    · exact Nat.zero_le _
  | m + 1, st, left, up => by
    by_cases e : left = []
    · rw [e, plans_nil, if_neg (Nat.succ_ne_zero m)]
      exact Nat.zero_le _
    · rw [plans_succ parS k m st e]
      obtain ⟨n, hn⟩ : ∃ n, left.length = n + 1 := ⟨left.length - 1, by have := List.length_pos_iff.mpr e; omega⟩
      have hc : ∀ lot ∈ lots k (ready parS st left), ((plans parS k m (st ++ lot) (wo left lot)).map fun r => lot :: r).length ≤ 2 ^ tri n := fun lot hl => by
        rw [List.length_map]
        refine Nat.le_trans (plans_len k m (wo_up up)) (Nat.pow_le_pow_right (by decide) (tri_mono ?_))
        obtain ⟨h1, h2, h3, h4⟩ := (mem_lots_ready parS k up).mp hl
        obtain ⟨x, hx⟩ := List.exists_mem_of_ne_nil _ h1
        have hlt : (wo left lot).length < left.length := by
          have : x ∈ left := (h4 x hx).1
          unfold wo
          rw [← List.countP_eq_length_filter]
          refine Nat.lt_of_le_of_ne List.countP_le_length fun z => ?_
          have := List.countP_eq_length.mp z x this
          simp [hx] at this
        omega
      refine Nat.le_trans (flat_len hc) ?_
      have hl : (lots k (ready parS st left)).length ≤ 2 ^ (n + 1) := by
        unfold lots
        rw [srt_len, List.length_tail]
        refine Nat.le_trans (Nat.sub_le _ _) (Nat.le_trans (subs_len k _) (Nat.pow_le_pow_right (by decide) ?_))
        rw [← hn]
        exact List.length_filter_le _ _
      rw [hn]
      show _ ≤ 2 ^ (tri n + (n + 1))
      rw [Nat.pow_add, Nat.mul_comm]
      exact Nat.mul_le_mul_left _ hl
theorem plans_small {k m : Nat} {st left : List Spot} (up : Up left) (h : left.length ≤ 6) : (plans parS k m st left).length ≤ 2097152 :=
  Nat.le_trans (plans_len k m up) (Nat.le_trans (Nat.pow_le_pow_right (by decide) (tri_mono h)) (by decide))
section
variable {P : Program} {w : World} {K : PySem.W.Frag} {mg : Str → Option Value} {base : Heap}
abbrev s__law_lots : Stmt := top 62
theorem sc__law_lots : FnScope ["_law_ready_here", "_law_sap", "_law_found", "_law_spot", "_law_lot"] ["_law_ready_here", "_law_sap"] (defScope s__law_lots) := ⟨rfl, rfl, rfl, by decide +kernel, rfl, by decide +kernel, by decide +kernel⟩
def spLLots : Sp := fun vs H Q _ => ∃ (S : List Addr) (v : V) (R : List Spot) (k : Nat), vs = [v, .int k] ∧ At (Hd S H) eSpots v R ∧ Own S H ∧ R.length ≤ 10 ∧ ∀ u H', Same H H' → At (Hd S H') ePl u (lots k R) → Q u H'
theorem ok__law_lots (T : Tx K mg) : FnOk P w K mg base CX0 1 (He.ga K "_law_lots") T.fd__law_lots ["_law_ready_here", "_law_sap"] spLLots := by
  refine T.F__law_lots.ok sc__law_lots (fun vs H Q E h => ?_) (fun cdv A outer s H vs Q E hr h => ?_)
  · obtain ⟨S, v, R, k, rfl, _⟩ := h; rfl
  · obtain ⟨S, v, R, k, rfl, hv, ow, hR, q⟩ := h
    have hu65 := hu65_of hr
    refine ⟨_, (pss_cons (ps_set (i := 2) sc__law_lots.nd rfl (Or.inl rfl) (pe_lst (pa_cons (pe_lst pa_nil) pa_nil)))
      (pss_cons (ps_for PassesOwn.leaving rfl (k_piL K rfl (pv 0)) (pg_name (i := 3) sc__law_lots.nd rfl (Or.inr rfl))
      (pss_one (ps_set (i := 2) sc__law_lots.nd rfl (Or.inl rfl) (pe_op op_cat (pv 2) (pe_lc (own := [("_law_lot", 4)]) rfl sc__law_lots.nd (k_piL K rfl (pv 2)) (blkOk_by (own := [("_law_lot", 4)]) (N := ["_law_ready_here", "_law_sap", "_law_found", "_law_spot", "_law_lot"]) (sc := (defScope s__law_lots)) (by decide +kernel)) (fun _ _ _ _ _ => (pg_name (i := 4) sc__law_lots.nd rfl (Or.inl rfl))) (fun _ _ _ _ _ => (pts_one (pt_cmpR op_lt (pe_callB (k_len K rfl) rfl T.f_len PySem.boot_len (pa_cons (pv 4) pa_nil)) (pv 1) (nomark _)))) (fun _ _ _ _ _ => (pe_op op_cat (pv 4) (pe_lst (pa_cons (pv 3) pa_nil)))))))))
      (pss_one (ps_ret (pe_callB (cr_sortA (sb_list (A := eSpot)) (hu := hu65)) rfl T.f_sorted (by decide +kernel) (pa_cons (pe_slice (k_slL K rfl) (pv 2) (po_some pe_int) po_none) pa_nil)))))), ?_⟩
    refine ⟨Nat.zero_le _, fun f0 hf0 => ⟨by show 1 ≤ sizeLine; rw [sizeLine_eq]; decide, fun f1 hf1 => ?_⟩⟩
    have s0 := same_up (o := .lst []) hf0
    have a0 : At (Hd S (upd H f0 (.lst []))) eSpots (.ref f0) [] := at_new ow hf0 .nil
    have a1 := at_new (ow.same s0) hf1 (Ats.one a0)
    have sm1 := s0.trans (same_up (o := .lst [.ref f0]) hf1)
    generalize upd (upd H f0 (.lst [])) f1 (.lst [.ref f0]) = H1 at a1 sm1
    have hv1 := hv.up sm1
    obtain ⟨p, xs, rfl, hp, hxs⟩ := id hv1.list
    refine ⟨_, rfl, p, rfl, ⟨_, .of (Hd_some hp).2⟩, ?_⟩
    refine forL (A := eSpot) (S := S) (l := R) hp hxs (fun i σ H' => (∃ v a b, σ = [some (.ref p), some (.int k), some v, a, b] ∧ At (Hd S H') ePl v (subs k (R.take i))) ∧ Same H1 H') ⟨⟨_, _, _, rfl, a1⟩, .refl _⟩ (fun i σ H h => .of h.2) (fun i x v3 σ H5 hx5 hP av => ?_) (fun σ H5 hP => ?_)
    · obtain ⟨⟨v, a2, b2, rfl, afo⟩, sm3⟩ := hP
      have ow5 := (ow.same sm1).same sm3
      obtain ⟨pf, xf, rfl, hpf, hxf⟩ := id afo.list
      have hz := subs_small k (l := R.take i) (by rw [List.length_take]; omega)
      refine ⟨_, rfl, _, rfl, pf, rfl, ⟨_, .of (Hd_some hpf).2⟩, fun D hD => ?_⟩
      refine lc_at (A := eSpots) (B := eSpots) (S := S) (fun m => decide (m.length < k)) (fun m => m ++ [x]) ow5 hD hpf hxf (by rw [sizeLine_eq]; omega) (fun m hm v H6 sm6 wD am NF NT k1 k2 => ?_) (fun H6 sm6 a6 => ?_)
      · obtain ⟨pm, xm, rfl, hpm, hxm⟩ := id am.list
        refine ⟨rfl, _, rfl, pm, xm, rfl, .inl (.of (Hd_some hpm).2), _, rfl, _, _, rfl, rfl, _, rfl, ?_⟩
        have ml : m.length ≤ 10 := by
          have := ((mem_subs k _ m).mp hm).1.length_le
          rw [List.length_take] at this
          omega
        rw [hxm.len]
        refine ite2 (fun e => ?_) fun e => ?_
        · have e1 : decide (m.length < k) = true := by
            have := of_decide_eq_true e
            exact decide_eq_true (by omega)
          refine ⟨_, rfl, _, rfl, by show 1 ≤ sizeLine; rw [sizeLine_eq]; decide, fun pn hpn => ?_⟩
          have sn := same_up (o := .lst [v3]) hpn
          refine ⟨pm, pn, xm, _, rfl, rfl, sn _ _ (Hd_some hpm).2, upd_same, by rw [hxm.len, sizeLine_eq]; show m.length + 1 ≤ _; omega, fun pq hpq => ?_⟩
          exact k2 e1 _ _ (sn.trans (same_up hpq)) (at_new (wD.same sn) hpq ((hxm.up sn).app (Ats.one ((av.into sm6 hD).up sn))))
        · have e1 : decide (m.length < k) = false := by
            have : ¬ (((m.length : Nat) : Int) < (k : Nat)) := fun z => e (decide_eq_true z)
            exact decide_eq_false (by omega)
          exact k1 e1 _ (.refl _)
      · obtain ⟨pD, xD, eD, hpD, hxD⟩ := id a6.list
        injection eD with eD
        subst eD
        have hz2 : xD.length ≤ 1024 := by
          rw [hxD.len, List.length_map]
          exact Nat.le_trans (List.length_filter_le _ _) hz
        refine ⟨pf, D, xf, xD, rfl, rfl, sm6 _ _ (Hd_some hpf).2, (Hd_some hpD).2, by rw [hxf.len, sizeLine_eq]; omega, fun pq hpq => ?_⟩
        refine ⟨⟨_, _, _, rfl, ?_⟩, (sm3.trans sm6).trans (same_up hpq)⟩
        rw [take_step hx5, subs_more]
        exact at_new (ow5.same sm6) hpq ((hxf.up sm6).app hxD)
    · obtain ⟨⟨v, a2, b2, rfl, afo⟩, sm3⟩ := hP
      rw [List.take_length] at afo
      obtain ⟨pf, xf, rfl, hpf, hxf⟩ := id afo.list
      have ow5 := (ow.same sm1).same sm3
      refine ⟨_, rfl, 1, rfl, pf, xf, rfl, .of (Hd_some hpf).2, fun pq hpq => ?_⟩
      have sq := same_up (o := .lst (cutV xf (some 1) none)) hpq
      have ad := at_new ow5 hpq (hxf.drop 1)
      rw [show (some (1 : Int)) = some ((1 : Nat) : Int) from rfl, cutv_lo] at sq ⊢
      refine ⟨S, _, _, rfl, ad, ow5.same sq, fun pz xs hpz az => ?_⟩
      refine q _ _ (((sm1.trans sm3).trans sq).trans (same_up hpz)) ?_
      rw [show (subs k R).drop 1 = (subs k R).tail from List.drop_one] at az
      exact az
abbrev s__law_ready : Stmt := top 63
theorem sc__law_ready : FnScope ["_law_standing", "_law_left", "_law_tree", "_law_word"] ["_law_standing", "_law_left"] (defScope s__law_ready) := ⟨rfl, rfl, rfl, by decide +kernel, rfl, by decide +kernel, by decide +kernel⟩
def spLReady : Sp := fun vs H Q _ => ∃ (S : List Addr) (v v2 : V) (st left : List Spot), vs = [v, v2] ∧ At (Hd S H) eSpots v st ∧ At (Hd S H) eSpots v2 left ∧ Own S H ∧ left.length ≤ 10 ∧ ∀ u H', Same H H' → At (Hd S H') eSpots u (ready parS st left) → Q u H'
theorem ok__law_ready (T : Tx K mg) : FnOk P w K mg base CX0 1 (He.ga K "_law_ready") T.fd__law_ready ["_law_standing", "_law_left"] spLReady := by
  refine T.F__law_ready.ok sc__law_ready (fun vs H Q E h => ?_) (fun cdv A outer s H vs Q E hr h => ?_)
  · obtain ⟨S, v, v2, st, left, rfl, _⟩ := h; rfl
  · obtain ⟨S, v, v2, st, left, rfl, hv, hv2, ow, hl, q⟩ := h
    have hu65 := hu65_of hr
    refine ⟨_, (pss_one (ps_ret (pe_lc (own := [("_law_tree", 2), ("_law_word", 3)]) rfl sc__law_ready.nd (k_piL K rfl (pv 1)) (blkOk_by (own := [("_law_tree", 2), ("_law_word", 3)]) (N := ["_law_standing", "_law_left", "_law_tree", "_law_word"]) (sc := (defScope s__law_ready)) (by decide +kernel)) (fun _ _ _ _ _ => (k_pgT K rfl (n := 2) rfl (pgs_cons (pg_name (i := 2) sc__law_ready.nd rfl (Or.inl rfl)) (pgs_cons (pg_name (i := 3) sc__law_ready.nd rfl (Or.inl rfl)) pgs_nil)))) (fun _ _ _ _ _ => (pts_one (pt_cmpR (k_in K rfl hu65) (pe_tup (pa_cons (pv 2) (pa_cons (pe_slice sl_str (pv 3) po_none (po_some (pe_un un_neg pe_int))) pa_nil))) (pv 0) (by rfl)))) (fun _ _ _ _ _ => (pe_tup (pa_cons (pv 2) (pa_cons (pv 3) pa_nil))))))), ?_⟩
    obtain ⟨p, xs, rfl, hp, hx⟩ := id hv2.list
    refine ⟨_, rfl, p, rfl, ⟨_, .of (Hd_some hp).2⟩, fun D hD => ?_⟩
    refine lc_at (A := eSpot) (B := eSpot) (S := S) (fun s => decide (parS s ∈ st)) (fun s => s) ow hD hp hx (by rw [sizeLine_eq]; omega) (fun x hx1 v3 H1 s1 wD av NF NT k1 k2 => ?_) (fun H1 s1 a1 => ?_)
    · obtain ⟨t, rfl, ht, w1, w2⟩ := av.spot
      refine ⟨t, _, rfl, .of (hd_to _ _ ht), rfl, _, _, rfl, _, _, rfl, rfl, rfl, ?_⟩
      refine ⟨_, rfl, _, rfl, 1, rfl, _, rfl, _, rfl, okW_line w2, two_line, ?_⟩
      rw [show (-1 : Int) = -1 from rfl, cut_but]
      intro b hb
      have sb := same_up (o := .tup [.str (tx x.1), .str (tx x.2.dropLast)]) hb
      have ow2 := (wD.same sb)
      refine ⟨_, rfl, in_at (A := eSpot) (a := parS x) (at_newS wD hb w1 (okW_but w2)) (((hv.into s1 hD).up sb)) hd_to ⟨_, rfl, ite2 (fun e => ?_) fun e => ?_⟩⟩
      · refine ⟨_, rfl, _, rfl, two_line, fun b2 hb2 => ?_⟩
        exact k2 (by simpa using e) _ _ (sb.trans (same_up hb2)) (at_newS ow2 hb2 w1 w2)
      · exact k1 (by simpa using e) _ sb
    · rw [List.map_id'] at a1
      have e : (left.filter fun s => decide (parS s ∈ st)) = ready parS st left := List.filter_congr fun s _ => decide_eq_decide.mpr Iff.rfl
      rw [e] at a1
      exact q _ _ s1 a1
abbrev s__law_all_plans : Stmt := top 64
theorem sc__law_all_plans : FnScope ["_law_standing", "_law_left", "_law_sap", "_law_seasons", "_law_found", "_law_lot", "_law_rest", "_law_spot", "_law_row_here"] ["_law_standing", "_law_left", "_law_sap", "_law_seasons"] (defScope s__law_all_plans) := ⟨rfl, rfl, rfl, by decide +kernel, rfl, by decide +kernel, by decide +kernel⟩
def spAll (B : Nat) : Sp := fun vs H Q _ => ∃ (S : List Addr) (v v2 : V) (st left : List Spot) (k m : Nat), vs = [v, v2, .int k, .int m] ∧ m < B ∧ At (Hd S H) eSpots v st ∧ At (Hd S H) eSpots v2 left ∧ Own S H ∧ left.length ≤ 6 ∧ Up left ∧ st.length + 10 * m ≤ 1000 ∧ ∀ u H', Same H H' → At (Hd S H') ePlans u (plans parS k m st left) → Q u H'
theorem ok_law_all_plans_B (T : Tx K mg) : ∀ B : Nat, FnOk P w K mg base CX0 (B + 2) (He.ga K "_law_all_plans") T.fd__law_all_plans ["_law_standing", "_law_left", "_law_sap", "_law_seasons"] (spAll B)
  | 0 => ⟨fun vs H Q E h => (by obtain ⟨_, _, _, _, _, _, _, _, h, _⟩ := h; omega), fun A outer s H args us vs Q E _ _ _ _ h => (by obtain ⟨_, _, _, _, _, _, _, _, h, _⟩ := h; omega)⟩
  | B + 1 => by
    have ih := ok_law_all_plans_B T B
    refine T.F__law_all_plans.ok sc__law_all_plans (fun vs H Q E h => ?_) (fun cdv A outer s H vs Q E hr h => ?_)
    · obtain ⟨S, v, v2, st, left, k, m, rfl, _⟩ := h; rfl
    · obtain ⟨S, v, v2, st, left, k, m, rfl, hm, hv, hv2, ow, hl, up, hst, q⟩ := h
      have hu65 := hu65_of hr
      refine ⟨_, (pss_cons (ps_if (pt_cmpR (k_eq K rfl hu65) (pv 1) (pe_lst pa_nil) (nomark _)) (pss_one (ps_ret (pe_ifExp (pt_cmpR op_eq (pv 3) pe_int (nomark _)) (pe_lst (pa_cons (pe_lst pa_nil) pa_nil)) (pe_lst pa_nil)))) pss_nil)
      (pss_cons (ps_if (pt_cmpR op_eq (pv 3) pe_int (nomark _)) (pss_one (ps_ret (pe_lst pa_nil))) pss_nil)
      (pss_cons (ps_set (i := 4) sc__law_all_plans.nd rfl (Or.inl rfl) (pe_lst pa_nil))
      (pss_cons (ps_for PassesOwn.leaving rfl (k_piL K rfl (pe_call (ok__law_lots T) (hr.mono (by omega)) rfl T.g__law_lots T.F__law_lots.kp (b__law_lots T) .nil pass0 (pa_cons (pe_call (ok__law_ready T) (hr.mono (by omega)) rfl T.g__law_ready T.F__law_ready.kp (b__law_ready T) .nil pass0 (pa_cons (pv 0) (pa_cons (pv 1) pa_nil))) (pa_cons (pv 2) pa_nil)))) (pg_name (i := 5) sc__law_all_plans.nd rfl (Or.inr rfl))
      (pss_cons (ps_setLc (i := 6) (own := [("_law_spot", 7)]) rfl sc__law_all_plans.nd rfl rfl (sw_true rfl rfl rfl (by decide +kernel)) (k_piL K rfl (pv 1)) (blkOk_by (own := [("_law_spot", 7)]) (N := ["_law_standing", "_law_left", "_law_sap", "_law_seasons", "_law_found", "_law_lot", "_law_rest", "_law_spot", "_law_row_here"]) (sc := (defScope s__law_all_plans)) (by decide +kernel)) (fun _ _ _ _ _ => (pg_name (i := 7) sc__law_all_plans.nd rfl (Or.inl rfl))) (fun _ _ _ _ _ => (pts_one (pt_cmpR (k_notIn K rfl hu65) (pv 7) (pv 5) (by rfl)))) (fun _ _ _ _ _ => (pv 7)))
      (pss_one (ps_expr (pe_bm PySem.F.plainAttrs_list PySem.F.slot_list_extend PySem.F.type_list_extend mt_extend (pv 4) (pa_cons (pe_lc (own := [("_law_row_here", 8)]) rfl sc__law_all_plans.nd (k_piL K rfl (pe_call ih (hr.mono (by omega)) rfl T.g__law_all_plans T.F__law_all_plans.kp (b__law_all_plans T) .nil pass0 (pa_cons (pe_op op_cat (pv 0) (pv 5)) (pa_cons (pv 6) (pa_cons (pv 2) (pa_cons (pe_op op_sub (pv 3) pe_int) pa_nil)))))) (blkOk_by (own := [("_law_row_here", 8)]) (N := ["_law_standing", "_law_left", "_law_sap", "_law_seasons", "_law_found", "_law_lot", "_law_rest", "_law_spot", "_law_row_here"]) (sc := (defScope s__law_all_plans)) (by decide +kernel)) (fun _ _ _ _ _ => (pg_name (i := 8) sc__law_all_plans.nd rfl (Or.inl rfl))) (fun _ _ _ _ _ => pts_nil) (fun _ _ _ _ _ => (pe_op op_cat (pe_lst (pa_cons (pv 5) pa_nil)) (pv 8)))) pa_nil))))))
      (pss_one (ps_ret (pv 4))))))), ?_⟩
      obtain ⟨pl, xl, rfl, hpl, hxl⟩ := id hv2.list
      obtain ⟨ps, xs, rfl, hps, hxs⟩ := id hv.list
      refine ⟨_, rfl, Nat.zero_le _, fun p0 hp0 => ?_⟩
      have s0 := same_up (o := .lst []) hp0
      have ow0 := ow.same s0
      have a0 : At (Hd S (upd H p0 (.lst []))) eSpots (.ref p0) [] := at_new ow hp0 .nil
      refine eq_at (A := eSpots) (hv2.up s0) a0 hd_to ⟨_, rfl, ite2 (fun e => ?_) fun e => ?_⟩
      · have e := of_decide_eq_true e
        rw [e, plans_nil] at q
        refine ⟨_, rfl, rfl, _, rfl, ite2 (fun e2 => ?_) fun e2 => ?_⟩
        · have e3 := V.int.inj (of_decide_eq_true e2)
          rw [if_pos (by omega)] at q
          refine ⟨Nat.zero_le _, fun p1 hp1 => ⟨by show 1 ≤ sizeLine; rw [sizeLine_eq]; decide, fun p2 hp2 => ?_⟩⟩
          have s1 := same_up (o := .lst []) hp1
          have s2 := same_up (o := .lst [.ref p1]) hp2
          exact q _ _ ((s0.trans s1).trans s2) (at_new (A := ePl) (ow0.same s1) hp2 (Ats.one (at_new (A := eSpots) ow0 hp1 .nil)))
        · rw [if_neg (fun z => e2 (decide_eq_true (by rw [z]; rfl)))] at q
          exact ⟨Nat.zero_le _, fun p1 hp1 => q _ _ (s0.trans (same_up hp1)) (at_new (A := ePl) ow0 hp1 .nil)⟩
      · have nel : left ≠ [] := fun z => e (decide_eq_true z)
        refine ⟨_, rfl, rfl, _, rfl, ite2 (fun e2 => ?_) fun e2 => ?_⟩
        · have e3 := V.int.inj (of_decide_eq_true e2)
          obtain rfl : m = 0 := by omega
          rw [plans_zero, if_neg nel] at q
          exact ⟨Nat.zero_le _, fun p1 hp1 => q _ _ (s0.trans (same_up hp1)) (at_new (A := ePl) ow0 hp1 .nil)⟩
        · have hm0 : m ≠ 0 := fun z => e2 (decide_eq_true (by rw [z]; rfl))
          obtain ⟨m', rfl⟩ : ∃ m', m = m' + 1 := ⟨m - 1, by omega⟩
          have small := plans_small (k := k) (m := m' + 1) (st := st) up hl
          rw [plans_succ parS k m' st nel] at q small
          refine ⟨Nat.zero_le _, fun f hf => ?_⟩
          have s1 := same_up (o := .lst []) hf
          have g1 : upd (upd H p0 (.lst [])) f (.lst []) f = some (.lst []) := upd_same
          have ow1 : Own (f :: S) (upd (upd H p0 (.lst [])) f (.lst [])) := own_in ow0 hf
          have nfS : f ∉ S := ow0.new hf
          have hv1 : At (Hd (f :: S) (upd (upd H p0 (.lst [])) f (.lst []))) eSpots (.ref ps) st := (hv.up s0).into s1 hf
          have hv21 : At (Hd (f :: S) (upd (upd H p0 (.lst [])) f (.lst []))) eSpots (.ref pl) left := (hv2.up s0).into s1 hf
          have nf : H f = none := upd_no hf
          have s01 := s0.trans s1
          generalize upd (upd H p0 (.lst [])) f (.lst []) = H1 at s1 g1 ow1 hv1 hv21 s01
          refine ⟨_, rfl, _, rfl, f :: S, _, _, st, left, rfl, hv1, hv21, ow1, by omega, fun u1 H2 s2 au1 => ?_⟩
          have rl : (ready parS st left).length ≤ 6 := Nat.le_trans (List.length_filter_le _ _) hl
          refine ⟨_, rfl, f :: S, u1, _, k, rfl, au1, ow1.same s2, by omega, fun u2 H3 s3 au2 => ?_⟩
          have lotok : ∀ lot ∈ lots k (ready parS st left), lot.length ≤ 6 := fun lot h => by
            have := ((mem_lots (ready_up parS up).nodup).mp h).1.length_le
            omega
          generalize lots k (ready parS st left) = LT at au2 q small lotok
          have s23 := s2.trans s3
          have ow3 := ow1.same s23
          have g3 := s23 _ _ g1
          have hv3 := hv1.up s23
          have hv23 := hv21.up s23
          obtain ⟨pL, xL, rfl, hpL, hxL⟩ := id au2.list
          refine ⟨pL, rfl, ⟨_, .of (Hd_some hpL).2⟩, ?_⟩
          refine forL (A := eSpots) (S := f :: S) (l := LT) hpL hxL (fun j σ H' => (∃ j5 j6 j7 j8 : Option V, σ = [some (.ref ps), some (.ref pl), some (.int k), some (.int ((m' + 1 : Nat) : Int)), some (.ref f), j5, j6, j7, j8]) ∧ Fz [f] H3 H' ∧ Own (f :: S) H' ∧ ∃ ys, H' f = some (.lst ys) ∧ Ats (Hd (f :: S) H') ePl ys ((LT.take j).flatMap fun lot => (plans parS k m' (st ++ lot) (wo left lot)).map fun r => lot :: r))
            ⟨⟨_, _, _, _, rfl⟩, .refl, ow3, [], g3, .nil⟩ (fun j σ H' h => h.2.1.more sub1) (fun j lot v σ H4 hj hP av => ?_) (fun σ H4 hP => ?_)
          · obtain ⟨⟨j5, j6, j7, j8, rfl⟩, fz4, ow4, ys, gf, aF⟩ := hP
            obtain ⟨pt, xt, rfl, hpt, hxt⟩ := id av.list
            have lotl := lotok lot (List.mem_of_getElem? hj)
            have hv4 : At (Hd (f :: S) H4) eSpots (.ref ps) st := hv3.fz (fz4.more sub1)
            have hv24 : At (Hd (f :: S) H4) eSpots (.ref pl) left := hv23.fz (fz4.more sub1)
            obtain ⟨ps', xs4, e', hps4, hxs4⟩ := id hv4.list
            cases e'
            obtain ⟨pl', xl4, e', hpl4, hxl4⟩ := id hv24.list
            cases e'
            refine ⟨_, rfl, pl, rfl, ⟨_, .of (Hd_some hpl4).2⟩, fun D hD => ?_⟩
            refine lc_at (A := eSpot) (B := eSpot) (S := f :: S) (fun s => !memB s lot) (fun s => s) ow4 hD hpl4 hxl4 (by rw [sizeLine_eq]; omega) (fun x hx1 v5 H5 sm5 wD ax NF NT k1 k2 => ?_) (fun H5 s5 a5 => ?_)
            · refine ⟨rfl, _, rfl, _, rfl, notin_at (A := eSpot) ax (av.into sm5 hD) hd_to ⟨_, rfl, ite2 (fun e => ?_) fun e => ?_⟩⟩
              · exact ⟨_, rfl, k2 e _ _ (.refl _) ax⟩
              · exact k1 (Bool.eq_false_iff.mpr e) _ (.refl _)
            · rw [List.map_id'] at a5
              have ew : left.filter (fun s => !memB s lot) = wo left lot := List.filter_congr fun s _ => rfl
              rw [ew] at a5
              have hps5 := s5 _ _ (Hd_some hps4).2
              have hpt5 := s5 _ _ (Hd_some hpt).2
              have lxs := hxs4.len
              have lxt := hxt.len
              have gf5 := s5 _ _ gf
              refine ⟨_, rfl, .inl ⟨rfl, ys, .of gf5⟩, _, rfl, _, rfl, ps, pt, xs4, xt, rfl, rfl, hps5, hpt5, by rw [sizeLine_eq]; omega, fun pq hpq => ?_⟩
              have s6 := same_up (o := .lst (xs4 ++ xt)) hpq
              have ow5 := ow4.same s5
              have apq := at_new ow5 hpq ((hxs4.up s5).app (hxt.up s5))
              refine ⟨_, rfl, _, rfl, _, rfl, _, _, rfl, rfl, f :: S, .ref pq, .ref D, st ++ lot, wo left lot, k, m', ?_, by omega, apq, a5.up s6, ow5.same s6, Nat.le_trans (List.length_filter_le _ _) hl, wo_up up, by rw [List.length_append]; omega, fun u7 H7 s7 au7 => ?_⟩
              · show [V.ref pq, V.ref D, V.int (k : Nat), V.int (((m' + 1 : Nat) : Int) - 1)] = _
                rw [show ((m' + 1 : Nat) : Int) - 1 = ((m' : Nat) : Int) by omega]
              have s57 := (s5.trans s6).trans s7
              have ow7 := ow4.same s57
              obtain ⟨pu, xu, rfl, hpu, hxu⟩ := id au7.list
              have part := flat_take (fun lot => (plans parS k m' (st ++ lot) (wo left lot)).map fun r => lot :: r) LT (j + 1)
              rw [take_step hj, List.flatMap_append, List.flatMap_singleton, List.length_append, List.length_map] at part
              have rlen : ∀ r ∈ plans parS k m' (st ++ lot) (wo left lot), r.length = m' := fun r hr => ((mem_plans parS k m' (wo_up up) r).mp hr).1
              generalize hPL : plans parS k m' (st ++ lot) (wo left lot) = PL at hxu part rlen au7
              have lxu := hxu.len
              have lys := aF.len
              refine ⟨pu, rfl, ⟨_, .of (Hd_some hpu).2⟩, fun D2 hD2 => ?_⟩
              refine lc_at (A := ePl) (B := ePl) (S := f :: S) (fun _ => true) (fun r => lot :: r) ow7 hD2 hpu hxu (by rw [sizeLine_eq]; omega) (fun r hr v8 H8 s8 wD ar NF NT k1 k2 => ?_) (fun H8 s8 a8 => ?_)
              · obtain ⟨pr, xr, rfl, hpr, hxr⟩ := id ar.list
                have lxr := hxr.len
                have lr := rlen r hr
                refine ⟨rfl, _, rfl, by show 1 ≤ sizeLine; rw [sizeLine_eq]; decide, fun p1 hp1 => ?_⟩
                have s9 := same_up (o := .lst [.ref pt]) hp1
                refine ⟨_, rfl, p1, pr, _, xr, rfl, rfl, upd_same, s9 _ _ (Hd_some hpr).2, by rw [sizeLine_eq]; show 1 + xr.length ≤ _; omega, fun pq2 hpq2 => ?_⟩
                have alot := ((av.up s57).into s8 hD2).up s9
                exact k2 rfl _ _ (s9.trans (same_up hpq2)) (at_new (A := eSpots) (wD.same s9) hpq2 (Ats.cons alot (hxr.up s9)))
              · rw [ftrue] at a8
                obtain ⟨pD, zs, eD, hpD, hzs⟩ := id a8.list
                injection eD with eD
                subst eD
                have lz := hzs.len
                rw [List.length_map] at lz
                have s58 := s57.trans s8
                refine ⟨f, D2, ys, zs, rfl, rfl, s58 _ _ gf, (Hd_some hpD).2, by rw [sizeLine_eq]; omega, ⟨_, _, _, _, rfl⟩, (fz4.trans (.of s58)).trans (fz_upd (List.mem_singleton.mpr rfl)), (ow4.same s58).kp .upd, _, upd_same, ?_⟩
                rw [take_step hj, List.flatMap_append, List.flatMap_singleton]
                have h9 := ((aF.up s58).app hzs).up1 (f := f) (o := .lst (ys ++ zs)) List.mem_cons_self
                rw [← hPL] at h9
                exact h9
          · obtain ⟨⟨j5, j6, j7, j8, rfl⟩, fz4, ow4, ys, gf, aF⟩ := hP
            rw [List.take_length] at aF
            refine ⟨_, rfl, q _ _ ?_ (.of_list (by rw [Hd_at nfS]; exact gf) aF.out)⟩
            intro b o e
            have nb : b ≠ f := fun z => by rw [z, nf] at e; cases e
            exact fz4 _ _ (fun z => nb (List.mem_singleton.mp z)) (s23 _ _ (s01 _ _ e))
abbrev s__law_all_quickest : Stmt := top 65
theorem sc__law_all_quickest : FnScope ["_law_standing", "_law_wished", "_law_sap", "_law_missing", "_law_many"] ["_law_standing", "_law_wished", "_law_sap"] (defScope s__law_all_quickest) := ⟨rfl, rfl, rfl, by decide +kernel, rfl, by decide +kernel, by decide +kernel⟩
def spQuickest : Sp := fun vs H Q _ => ∃ (S : List Addr) (v v2 : V) (st wi : List Spot) (k : Nat), vs = [v, v2, .int k] ∧ At (Hd S H) eSpots v st ∧ At (Hd S H) eSpots v2 wi ∧ Own S H ∧ TaskF st wi ∧ 1 ≤ k ∧ k ≤ 300 ∧ fewT st wi k < 30 ∧ ∀ u H', Same H H' → At (Hd S H') ePlans u (plansT st wi k) → Q u H'
theorem ok__law_all_quickest (T : Tx K mg) : FnOk P w K mg base CX0 33 (He.ga K "_law_all_quickest") T.fd__law_all_quickest ["_law_standing", "_law_wished", "_law_sap"] spQuickest := by
  refine T.F__law_all_quickest.ok sc__law_all_quickest (fun vs H Q E h => ?_) (fun cdv A outer s H vs Q E hr h => ?_)
  · obtain ⟨S, v, v2, st, wi, k, rfl, _⟩ := h; rfl
  · obtain ⟨S, v, v2, st, wi, k, rfl, hv, hv2, ow, tk, h1, h2, hfew, q⟩ := h
    refine ⟨_, (pss_cons (ps_set (i := 3) sc__law_all_quickest.nd rfl (Or.inl rfl) (pe_call (ok__law_lacking T) (hr.mono (by decide)) rfl T.g__law_lacking T.F__law_lacking.kp (b__law_lacking T) .nil pass0 (pa_cons (pv 0) (pa_cons (pv 1) pa_nil))))
      (pss_cons (ps_set (i := 4) sc__law_all_quickest.nd rfl (Or.inl rfl) (pe_call (ok__law_fewest T) (hr.mono (by decide)) rfl T.g__law_fewest T.F__law_fewest.kp (b__law_fewest T) .nil pass0 (pa_cons (pe_call (ok__law_row T) (hr.mono (by decide)) rfl T.g__law_row T.F__law_row.kp (b__law_row T) .nil pass0 (pa_cons (pv 0) (pa_cons (pv 1) pa_nil))) (pa_cons (pv 2) pa_nil))))
      (pss_one (ps_ret (pe_ifExp (pt_cmpR op_isN (pv 4) pe_non (nomark _)) (pe_lst pa_nil) (pe_call (ok_law_all_plans_B T 30) (hr.mono (by omega)) rfl T.g__law_all_plans T.F__law_all_plans.kp (b__law_all_plans T) .nil pass0 (pa_cons (pv 0) (pa_cons (pv 3) (pa_cons (pv 2) (pa_cons (pv 4) pa_nil)))))))))), ?_⟩
    have t24 := tk.st24
    have hrow := tk.ok.row
    refine ⟨_, rfl, _, rfl, S, v, v2, st, wi, rfl, hv, hv2, ow, tk.ok.l1, tk.ok.l2, fun u H1 s1 au => ?_⟩
    refine ⟨_, rfl, _, rfl, S, v, v2, st, wi, rfl, hv.up s1, hv2.up s1, ow.same s1, tk.ok, fun u2 H2 s2 au2 => ?_⟩
    refine ⟨_, rfl, S, u2, rowT st wi, k, rfl, au2, (ow.same s1).same s2, by omega, h1, h2, fun H3 s3 => ?_⟩
    refine ⟨_, rfl, rfl, _, rfl, iteF ?_⟩
    have s13 := (s1.trans s2).trans s3
    refine ⟨_, rfl, _, rfl, _, rfl, _, rfl, S, v, u, st, lack st wi, k, fewT st wi k, rfl, hfew, hv.up s13, au.up (s2.trans s3), ow.same s13, tk.few6, lack_up st wi, by omega, fun u4 H4 s4 a4 => q _ _ (s13.trans s4) a4⟩
end
end Pw
end
section
set_option linter.all false
set_option maxRecDepth 100000
set_option maxHeartbeats 2000000
/-! Law 11: bent_plan. -/
namespace Pw
open PySem PySem.Spec PyProof.Rows L2
theorem ixN_at {n j : Nat} (hj : j < n) : ixN n (j : Int) = some j := by
  unfold ixN
  rw [if_pos (by omega), if_pos (by omega)]
  rfl
theorem atI_neg {α : Type} {xs : List α} {v : α} (h : xs[xs.length - 1]? = some v) : atI xs (-1) = some v := by
  have hl := (List.getElem?_eq_some_iff.mp h).1
  unfold atI ixN
  rw [if_neg (by decide), if_pos (by omega)]
  show xs[((-1 : Int) + (xs.length : Int)).toNat]? = some v
  rw [show ((-1 : Int) + (xs.length : Int)).toNat = xs.length - 1 by omega]
  exact h
section
variable {α : Type} [LT α] [STO α] [DecidableEq α] [DecidableLT α] {G : Hp} {A : Enc α} {v : V} {a : α} {vs : List V} {l : List α}
theorem Ats.ins (n : Nat) (h : Ats G A vs l) (k : At G A v a) : Ats G A (vs.take n ++ [v] ++ vs.drop n) (l.take n ++ [a] ++ l.drop n) := ((h.take n).app (Ats.one k)).app (h.drop n)
theorem Ats.but (h : Ats G A vs l) : Ats G A vs.dropLast l.dropLast := by
  rw [List.dropLast_eq_take, List.dropLast_eq_take, h.len]
  exact h.take _
end
section
variable {P : Program} {w : World} {K : PySem.W.Frag} {mg : Str → Option Value} {base : Heap}
abbrev s__law_bent_plan : Stmt := top 66
theorem sc__law_bent_plan : FnScope ["_law_hat_here", "_law_seasons", "_law_spots", "_law_found", "_law_at", "_law_spot", "_law_way", "_law_season"] ["_law_hat_here", "_law_seasons", "_law_spots"] (defScope s__law_bent_plan) := ⟨rfl, rfl, rfl, by decide +kernel, rfl, by decide +kernel, by decide +kernel⟩
def spBent : Sp := fun vs H Q _ => ∃ (S : List Addr) (a : Addr) (v1 v2 : V) (L0 : List (List Spot)) (sp : List Spot), vs = [.ref a, v1, v2] ∧ HatAt K S H a ∧ Own S H ∧ At (Hd S H) ePl v1 L0 ∧ At (Hd S H) eSpots v2 sp ∧ L0.length ≤ 100 ∧ (∀ x ∈ L0, x.length ≤ 100) ∧ sp ≠ [] ∧ sp.length ≤ 100 ∧
  ∀ u L H', L.length ≤ 1000 → (∀ x ∈ L, x.length ≤ 1000) → At (Hd S H') ePl u L → Fz [a] H H' → HatAt K S H' a → Own S H' → Q u H'
theorem ok__law_bent_plan (T : Tx K mg) : FnOk P w K mg base CX0 2 (He.ga K "_law_bent_plan") T.fd__law_bent_plan ["_law_hat_here", "_law_seasons", "_law_spots"] (spBent (K := K)) := by
  refine T.F__law_bent_plan.ok sc__law_bent_plan (fun vs H Q E h => ?_) (fun cdv A outer s H vs Q E hr h => ?_)
  · obtain ⟨S, a, v1, v2, L0, sp, rfl, _⟩ := h; rfl
  · obtain ⟨S, a, v1, v2, L0, sp, rfl, hat, ow, hv1, hv2, ll, lx, nsp, lsp, q⟩ := h
    have haS := hat.own
    have hu65 := hu65_of hr
    refine ⟨_, (pss_cons (ps_setLc (i := 3) (own := [("_law_season", 7)]) rfl sc__law_bent_plan.nd rfl rfl (sw_true rfl rfl rfl (by decide +kernel)) (k_piL K rfl (pv 1)) (blkOk_by (own := [("_law_season", 7)]) (N := ["_law_hat_here", "_law_seasons", "_law_spots", "_law_found", "_law_at", "_law_spot", "_law_way", "_law_season"]) (sc := (defScope s__law_bent_plan)) (by decide +kernel)) (fun _ _ _ _ _ => (pg_name (i := 7) sc__law_bent_plan.nd rfl (Or.inl rfl))) (fun _ _ _ _ _ => pts_nil) (fun _ _ _ _ _ => (pe_callTy (k_listOf K rfl) rfl T.f_list (by decide +kernel) (pa_cons (pv 7) pa_nil))))
      (pss_cons (ps_set (i := 4) sc__law_bent_plan.nd rfl (Or.inl rfl) (pe_call (ok__law_take T) (hr.mono (by decide)) rfl T.g__law_take T.F__law_take.kp (b__law_take T) .nil pass0 (pa_cons (pv 0) (pa_cons (pe_callB (call_max2 rfl) rfl T.f_max (by decide +kernel) (pa_cons pe_int (pa_cons (pe_callB (k_len K rfl) rfl T.f_len PySem.boot_len (pa_cons (pv 3) pa_nil)) pa_nil))) pa_nil))))
      (pss_cons (ps_set (i := 5) sc__law_bent_plan.nd rfl (Or.inl rfl) (pe_ix (k_ixL K rfl) (pv 2) (pe_call (ok__law_take T) (hr.mono (by decide)) rfl T.g__law_take T.F__law_take.kp (b__law_take T) .nil pass0 (pa_cons (pv 0) (pa_cons (pe_callB (k_len K rfl) rfl T.f_len PySem.boot_len (pa_cons (pv 2) pa_nil)) pa_nil))) (fun _ _ => rfl)))
      (pss_cons (ps_set (i := 6) sc__law_bent_plan.nd rfl (Or.inl rfl) (pe_call (ok__law_take T) (hr.mono (by decide)) rfl T.g__law_take T.F__law_take.kp (b__law_take T) .nil pass0 (pa_cons (pv 0) (pa_cons pe_int pa_nil))))
      (pss_cons (ps_if (PW.pt (pw_or (pt_cmpR op_eq (pv 6) pe_int (nomark _)) (pw_or1 (pt_cmpR (k_eq K rfl hu65) (pv 3) (pe_lst pa_nil) (nomark _))))) (pss_one (ps_expr (pe_bm PySem.F.plainAttrs_list PySem.F.slot_list_insert PySem.F.type_list_insert mt_insert (pv 3) (pa_cons (pv 4) (pa_cons (pe_lst pa_nil) pa_nil))))) (pss_one (ps_if (pt_cmpR op_eq (pv 6) pe_int (nomark _)) (pss_one (ps_expr (pe_bm PySem.F.plainAttrs_list PySem.F.slot_list_pop PySem.F.type_list_pop mt_popAt (pv 3) (pa_cons (pv 4) pa_nil)))) (pss_one (ps_if (pt_cmpR op_eq (pv 6) pe_int (nomark _)) (pss_one (ps_expr (pe_bm PySem.F.plainAttrs_list PySem.F.slot_list_insert PySem.F.type_list_insert mt_insert (pv 3) (pa_cons (pv 4) (pa_cons (pe_callTy (k_listOf K rfl) rfl T.f_list (by decide +kernel) (pa_cons (pe_ix (k_ixL K rfl) (pv 3) (pv 4) (fun _ _ => rfl)) pa_nil)) pa_nil))))) (pss_one (ps_if (pt_cmpR op_eq (pv 6) pe_int (nomark _)) (pss_one (ps_asg (pe_tup (pa_cons (pe_ix (k_ixL K rfl) (pv 3) pe_int (fun _ _ => rfl)) (pa_cons (pe_ix (k_ixL K rfl) (pv 3) (pv 4) (fun _ _ => rfl)) pa_nil))) (k_pgT K rfl (n := 2) rfl (pgs_cons (pg_sub (pv 3) (pv 4) set_list) (pgs_cons (pg_sub (pv 3) pe_int set_list) pgs_nil))))) (pss_one (ps_if (pt_cmpR op_eq (pv 6) pe_int (nomark _)) (pss_one (ps_asg (k_rev K rfl (pe_ix (k_ixL K rfl) (pv 3) (pv 4) (fun _ _ => rfl))) (pg_sub (pv 3) (pv 4) set_list))) (pss_one (ps_if (pt_cmpR op_eq (pv 6) pe_int (nomark _)) (pss_one (ps_asg (pe_callB (cr_sortA sb_spot (hu := hu65)) rfl T.f_sorted (by decide +kernel) (pa_cons (pe_op op_cat (pe_ix (k_ixL K rfl) (pv 3) (pv 4) (fun _ _ => rfl)) (pe_lst (pa_cons (pv 5) pa_nil))) pa_nil)) (pg_sub (pv 3) (pv 4) set_list))) (pss_one (ps_if (pt_cmpR op_eq (pv 6) pe_int (nomark _)) (pss_one (ps_asg (pe_slice (k_slL K rfl) (pe_ix (k_ixL K rfl) (pv 3) (pv 4) (fun _ _ => rfl)) (po_some pe_int) po_none) (pg_sub (pv 3) (pv 4) set_list))) (pss_cons (ps_asg (pe_callB (cr_sortA sb_spot (hu := hu65)) rfl T.f_sorted (by decide +kernel) (pa_cons (pe_op op_cat (pe_ix (k_ixL K rfl) (pv 3) (pv 4) (fun _ _ => rfl)) (pe_ix (k_ixL K rfl) (pv 3) (pe_un un_neg pe_int) (fun _ _ => rfl))) pa_nil)) (pg_sub (pv 3) (pv 4) set_list))
      (pss_one (ps_expr (pe_bm0 PySem.F.plainAttrs_list PySem.F.slot_list_pop PySem.F.type_list_pop mt_pop (pv 3))))))))))))))))))
      (pss_one (ps_ret (pv 3)))))))), ?_⟩
    have Sa0 : ∀ b ∈ [a], b ∈ S := sub2 haS
    obtain ⟨p1, x1, rfl, hp1, hx1⟩ := id hv1.list
    have l1 := hx1.len
    refine ⟨_, rfl, p1, rfl, ⟨_, .of (Hd_some hp1).2⟩, fun f hf => ?_⟩
    have naf := hat.ne hf
    have nfS : f ∉ S := ow.new hf
    have kf : f ∉ [a] := fun z => naf (List.mem_singleton.mp z)
    have keep : ∀ H', Same H H' → Same (Hd S H) (Hd (f :: S) H') := fun H' sm b o e => by
      obtain ⟨n, e2⟩ := Hd_some e
      rw [Hd_at (fun z => (List.mem_cons.mp z).elim (fun z => by rw [z, hf] at e2; cases e2) n)]
      exact sm _ _ e2
    refine lc_it (walk_list (K := K) (a := p1) (xs := x1)) (fun i H' => Same H H' ∧ Own (f :: S) H' ∧ HatAt K (f :: S) H' a ∧ ∃ ys, H' f = some (.lst ys) ∧ Ats (Hd (f :: S) H') eSpots ys (L0.take i))
      ⟨same_up hf, own_in ow hf, hat.into (same_up hf) hf, [], upd_same, .nil⟩ (fun i H' _ h => .of (h.1 _ _ (Hd_some hp1).2)) (fun i x H1 H2 hi hP hy => ?_) (fun H1 hP => ?_)
    · obtain ⟨rfl, hx⟩ := hy
      obtain ⟨sm, ow1, hat1, ys, gf, aF⟩ := hP
      obtain ⟨L, hL, aL0⟩ := hx1.at hx
      have aL := aL0.same (keep _ sm)
      obtain ⟨pL, xL, rfl, hpL, hxL⟩ := id aL.list
      have ly := aF.len
      refine ⟨rfl, _, rfl, pL, xL, rfl, .inl (.of (Hd_some hpL).2), fun l hl => ?_⟩
      have s2 := same_up (o := .lst xL) hl
      have nlf : l ≠ f := fun z => by rw [z, gf] at hl; cases hl
      refine ⟨ys, s2 _ _ gf, by rw [ly, List.length_take, sizeLine_eq]; omega, fun b o e => ?_, (ow1.same s2).kp .upd, (hat1.same s2).upd List.mem_cons_self naf, _, upd_same, ?_⟩
      · rw [upd_ne (fun z => by rw [z, hf] at e; cases e)]
        exact s2 _ _ (sm _ _ e)
      · rw [take_step hL]
        exact ((aF.up s2).app (Ats.one (at_new ow1 hl hxL))).up1 List.mem_cons_self
    · obtain ⟨sm, ow1, hat1, ys, gf, aF⟩ := hP
      rw [l1, List.take_length] at aF
      have ly := aF.len
      refine ⟨_, rfl, _, rfl, f, ys, rfl, .inl (.of gf), _, _, rfl, f :: S, a, max 1 ys.length, ?_, by omega, by omega, hat1, ow1, fun at' H2 hat' fz2 hat2 ow2 => ?_⟩
      · refine congrArg (fun z : Int => [V.ref a, V.int z]) ?_
        by_cases z : ((ys.length : Nat) : Int) > 1
        · rw [if_pos z]; omega
        · rw [if_neg z]; omega
      have Saf : ∀ b ∈ [a], b ∈ f :: S := fun b hb => List.mem_cons_of_mem _ (Sa0 b hb)
      have aSp2 : At (Hd (f :: S) H2) eSpots v2 sp := (hv2.same (keep _ sm)).fz (fz2.more Saf)
      obtain ⟨pp, xp, rfl, hpp, hxp⟩ := id aSp2.list
      have lp := hxp.len
      have posp : 0 < sp.length := List.length_pos_iff.mpr nsp
      refine ⟨_, rfl, _, rfl, _, rfl, pp, xp, rfl, .inl (.of (Hd_some hpp).2), f :: S, a, xp.length, rfl, by omega, by omega, hat2, ow2, fun r3 H3 hr3 fz3 hat3 ow3 => ?_⟩
      have hpp3 := fz3 _ _ (fun z => (Hd_some hpp).1 (Saf _ z)) (Hd_some hpp).2
      have hy3 : xp[r3]? = some xp[r3] := List.getElem?_eq_getElem hr3
      obtain ⟨spot, hspot, aspot⟩ := (hxp.fz (fz3.more Saf)).at hy3
      refine ⟨pp, xp, r3, _, rfl, rfl, .of hpp3, atI_nat hy3, ?_⟩
      generalize xp[r3] = vs at aspot
      refine ⟨_, rfl, f :: S, a, 8, rfl, by decide, by decide, hat3, ow3, fun way H4 hway fz4 hat4 ow4 => ?_⟩
      have fz14 := (fz2.trans fz3).trans fz4
      have gf4 := fz14 _ _ kf gf
      have aF4 := aF.fz (fz14.more Saf)
      have aspot4 := aspot.fz (fz4.more Saf)
      dsimp only [gName]
      refine tseq_cut (fun N => ∀ (ys : List V) (L : List (List Spot)) (H' : Hp), H' f = some (.lst ys) → Ats (Hd (f :: S) H') eSpots ys L → L.length ≤ 1000 → (∀ x ∈ L, x.length ≤ 1000) → Fz [f, a] H4 H' → HatAt K (f :: S) H' a → Own (f :: S) H' → N [some (.ref a), some (.ref p1), some (.ref pp), some (.ref f), some (.int (at' : Nat)), some vs, some (.int (way : Nat)), none] H') ?_ fun N hN => ?_
      · intro ys L H' gf' aL' lL lX fz' hat' ow'
        refine ⟨_, rfl, q _ L _ lL lX (.of_list (by rw [Hd_at nfS]; exact gf') aL'.out) ?_ (hat'.out haS) ow'.tail⟩
        exact ((((Fz.of sm).trans (fz14.more (T := [f, a]) fun b hb => List.mem_cons_of_mem _ hb)).trans fz').drop hf)
      · have mf : f ∈ f :: S := List.mem_cons_self
        have mfa : f ∈ [f, a] := List.mem_cons_self
        have n100 : ys.length ≤ 100 := by omega
        have bnd : ∀ x ∈ L0, x.length ≤ 1000 := fun x hx => by have := lx x hx; omega
        -- a store into the list
        have put : ∀ (zs : List V) (M : List (List Spot)) (H' : Hp), Same H4 H' → Ats (Hd (f :: S) H') eSpots zs M → M.length ≤ 1000 → (∀ x ∈ M, x.length ≤ 1000) → N [some (.ref a), some (.ref p1), some (.ref pp), some (.ref f), some (.int (at' : Nat)), some vs, some (.int (way : Nat)), none] (upd H' f (.lst zs)) := fun zs M H' s' aM l1 l2 =>
          hN zs M _ upd_same (aM.up1 mf) l1 l2 ((Fz.of s').trans (fz_upd mfa)) ((hat4.same s').upd mf naf) ((ow4.same s').kp .upd)
        have ins0 : ∀ HB, Same H4 HB → tDrop (tBM K "list" (fun x vs H Q => ∃ (l : Addr) (xs : List V) (i : Int) (y : V), x = .ref l ∧ vs = [.int i, y] ∧ H l = some (.lst xs) ∧ xs.length < sizeLine ∧ 0 ≤ i ∧ i < 2 ^ 63 ∧ Q .non (upd H l (.lst (xs.take i.toNat ++ [y] ++ xs.drop i.toNat)))) (tVar 3) (tCons (tVar 4) (tCons (tLst tNil) tNil))) { nx := N, rt := Q } [some (.ref a), some (.ref p1), some (.ref pp), some (.ref f), some (.int (at' : Nat)), some vs, some (.int (way : Nat)), none] HB := fun HB sB => by
          refine ⟨_, rfl, .inl ⟨rfl, ys, .of (sB _ _ gf4)⟩, _, rfl, Nat.zero_le _, fun p hp => ?_⟩
          have s5 := same_up (o := .lst []) hp
          refine ⟨f, ys, at', .ref p, rfl, rfl, s5 _ _ (sB _ _ gf4), by rw [sizeLine_eq]; omega, by omega, by omega, ?_⟩
          refine put _ (L0.take at' ++ [[]] ++ L0.drop at') _ (sB.trans s5) (((aF4.up sB).up s5).ins at' (at_new (ow4.same sB) hp .nil)) ?_ fun x hx => ?_
          · simp only [List.length_append, List.length_take, List.length_drop, List.length_singleton]; omega
          · rcases List.mem_append.mp hx with hx | hx
            · rcases List.mem_append.mp hx with hx | hx
              · exact bnd x (List.mem_of_mem_take hx)
              · rw [List.mem_singleton.mp hx]; exact Nat.zero_le _
            · exact bnd x (List.mem_of_mem_drop hx)
        refine ⟨_, rfl, rfl, _, rfl, ite2 (fun e => iteT (ins0 H4 (.refl _))) fun e0 => ?_⟩
        refine ⟨_, rfl, Nat.zero_le _, fun p0 hp0 => ?_⟩
        have s5 := same_up (o := .lst []) hp0
        have af4 : At (Hd S H4) ePl (.ref f) L0 := .of_list (by rw [Hd_at nfS]; exact gf4) aF4.out
        refine eq_at (A := ePl) (af4.up s5) (at_new ow4.tail hp0 .nil) hd_to ⟨_, rfl, ite2 (fun e => ins0 _ s5) fun e => ?_⟩
        have neL : L0 ≠ [] := fun z => e (decide_eq_true z)
        have posL : 0 < L0.length := List.length_pos_iff.mpr neL
        have hat5 : at' < ys.length := by omega
        have gf5 := s5 _ _ gf4
        have aF5 := aF4.up s5
        have ow5 := ow4.same s5
        have asp5 := aspot4.up s5
        clear ins0 af4
        generalize upd H4 p0 (.lst []) = H5 at s5 gf5 aF5 ow5 asp5
        have hya : ys[at']? = some ys[at'] := List.getElem?_eq_getElem hat5
        obtain ⟨La, hLa, aLa⟩ := aF5.at hya
        have ix := ixN_at hat5
        have lLa : La.length ≤ 100 := lx La (List.mem_of_getElem? hLa)
        generalize ys[at'] = ya at hya aLa
        obtain ⟨pa', xa, rfl, hpa, hxa⟩ := id aLa.list
        have lxa := hxa.len
        have stored : ∀ (v : V) (M : List Spot) (H' : Hp), Same H5 H' → At (Hd (f :: S) H') eSpots v M → M.length ≤ 1000 → N [some (.ref a), some (.ref p1), some (.ref pp), some (.ref f), some (.int (at' : Nat)), some vs, some (.int (way : Nat)), none] (upd H' f (.lst (ys.set at' v))) := fun v M H' s' aM lM =>
          put _ (L0.set at' M) H' (s5.trans s') ((aF5.up s').set at' aM) (by rw [List.length_set]; omega) fun x hx => (List.mem_or_eq_of_mem_set hx).elim (bnd x) fun z => by rw [z]; exact lM
        -- 1
        refine ⟨_, rfl, rfl, _, rfl, ite2 (fun e => ?_) fun e1 => ?_⟩
        · refine ⟨_, rfl, .inl ⟨rfl, ys, .of gf5⟩, _, rfl, f, ys, at', at', _, rfl, rfl, gf5, by omega, by omega, seqIndex_of (by omega) (by omega), hya, ?_⟩
          exact put _ (L0.eraseIdx at') _ s5 (aF5.erase at') (Nat.le_trans (List.length_eraseIdx_le _ _) (by omega)) fun x hx => bnd x (List.mem_of_mem_eraseIdx hx)
        -- 2
        refine ⟨_, rfl, rfl, _, rfl, ite2 (fun e => ?_) fun e2 => ?_⟩
        · refine ⟨_, rfl, .inl ⟨rfl, ys, .of gf5⟩, _, rfl, _, rfl, _, rfl, f, ys, at', _, rfl, rfl, .of gf5, atI_nat hya, pa', xa, rfl, .inl (.of (Hd_some hpa).2), fun l hl => ?_⟩
          have s6 := same_up (o := .lst xa) hl
          refine ⟨f, ys, at', .ref l, rfl, rfl, s6 _ _ gf5, by rw [sizeLine_eq]; omega, by omega, by omega, ?_⟩
          refine put _ (L0.take at' ++ [La] ++ L0.drop at') _ (s5.trans s6) ((aF5.up s6).ins at' (at_new ow5 hl hxa)) ?_ fun x hx => ?_
          · simp only [List.length_append, List.length_take, List.length_drop, List.length_singleton]; omega
          · rcases List.mem_append.mp hx with hx | hx
            · rcases List.mem_append.mp hx with hx | hx
              · exact bnd x (List.mem_of_mem_take hx)
              · rw [List.mem_singleton.mp hx]; omega
            · exact bnd x (List.mem_of_mem_drop hx)
        -- 3
        refine ⟨_, rfl, rfl, _, rfl, ite2 (fun e => ?_) fun e3 => ?_⟩
        · have hy0 : ys[0]? = some (ys[0]'(by omega)) := List.getElem?_eq_getElem (by omega)
          obtain ⟨L00, hL00, aL00⟩ := aF5.at hy0
          generalize ys[0]'(by omega) = y0 at hy0 aL00
          refine ⟨_, rfl, f, ys, 0, _, rfl, rfl, .of gf5, atI_nat hy0, _, rfl, _, rfl, f, ys, at', _, rfl, rfl, .of gf5, atI_nat hya, two_line, fun t ht => ?_⟩
          have s6 := same_up (o := .tup [y0, .ref pa']) ht
          have ix0 : ixN (ys.set at' y0).length (0 : Int) = some 0 := by
            rw [List.length_set]
            exact ixN_at (j := 0) (by omega)
          refine ⟨t, _, rfl, .of upd_same, rfl, _, _, rfl, _, rfl, _, rfl, f, ys, at', at', rfl, rfl, s6 _ _ gf5, ix, _, _, rfl, _, rfl, f, _, 0, 0, rfl, rfl, upd_same, ix0, rfl, ?_⟩
          rw [upd_upd]
          refine put _ ((L0.set at' L00).set 0 La) _ (s5.trans s6) (((aF5.up s6).set at' (aL00.up s6)).set 0 (aLa.up s6)) (by rw [List.length_set, List.length_set]; omega) fun x hx => ?_
          rcases List.mem_or_eq_of_mem_set hx with hx | hx
          · rcases List.mem_or_eq_of_mem_set hx with hx | hx
            · exact bnd x hx
            · rw [hx]; exact bnd _ (List.mem_of_getElem? hL00)
          · rw [hx]; omega
        -- 4
        refine ⟨_, rfl, rfl, _, rfl, ite2 (fun e => ?_) fun e4 => ?_⟩
        · refine ⟨_, rfl, _, rfl, f, ys, at', _, rfl, rfl, .of gf5, atI_nat hya, pa', xa, rfl, .of (Hd_some hpa).2, fun p hp => ?_⟩
          have s6 := same_up (o := .lst xa.reverse) hp
          refine ⟨_, rfl, _, rfl, f, ys, at', at', rfl, rfl, s6 _ _ gf5, ix, ?_⟩
          exact stored _ La.reverse _ s6 (at_new ow5 hp hxa.rev) (by rw [List.length_reverse]; omega)
        -- 5
        refine ⟨_, rfl, rfl, _, rfl, ite2 (fun e => ?_) fun e5 => ?_⟩
        · refine ⟨_, rfl, _, rfl, f, ys, at', _, rfl, rfl, .of gf5, atI_nat hya, _, rfl, by show 1 ≤ sizeLine; rw [sizeLine_eq]; decide, fun p hp => ?_⟩
          have s6 := same_up (o := .lst [vs]) hp
          refine ⟨pa', p, xa, _, rfl, rfl, s6 _ _ (Hd_some hpa).2, upd_same, by rw [sizeLine_eq]; show xa.length + 1 ≤ _; omega, fun pq hpq => ?_⟩
          have s7 := same_up (o := .lst (xa ++ [vs])) hpq
          have ow6 := ow5.same s6
          have s67 := s6.trans s7
          refine ⟨f :: S, _, La ++ [spot], rfl, at_new ow6 hpq ((hxa.up s6).app (Ats.one (asp5.up s6))), ow6.same s7, fun pz xs hpz az => ?_⟩
          have s8 := s67.trans (same_up (o := .lst xs) hpz)
          refine ⟨_, rfl, _, rfl, f, ys, at', at', rfl, rfl, s8 _ _ gf5, ix, ?_⟩
          exact stored _ _ _ s8 az (by rw [srt_len, List.length_append]; exact Nat.le_trans (Nat.add_le_add_right lLa 1) (by decide))
        -- 6
        refine ⟨_, rfl, rfl, _, rfl, ite2 (fun e => ?_) fun e6 => ?_⟩
        · refine ⟨_, rfl, _, rfl, f, ys, at', _, rfl, rfl, .of gf5, atI_nat hya, 1, rfl, pa', xa, rfl, .of (Hd_some hpa).2, fun p hp => ?_⟩
          rw [show (some (1 : Int)) = some ((1 : Nat) : Int) from rfl, cutv_lo]
          have s6 := same_up (o := .lst (xa.drop 1)) hp
          refine ⟨_, rfl, _, rfl, f, ys, at', at', rfl, rfl, s6 _ _ gf5, ix, ?_⟩
          exact stored _ (La.drop 1) _ s6 (at_new ow5 hp (hxa.drop 1)) (by rw [List.length_drop]; omega)
        -- 7
        · have hyl : ys[ys.length - 1]? = some (ys[ys.length - 1]'(by omega)) := List.getElem?_eq_getElem (by omega)
          obtain ⟨Ll, hLl, aLl⟩ := aF5.at hyl
          generalize ys[ys.length - 1]'(by omega) = yl at hyl aLl
          obtain ⟨pl, xl, rfl, hpl, hxl⟩ := id aLl.list
          have lxl := hxl.len
          have lLl := lx Ll (List.mem_of_getElem? hLl)
          refine ⟨_, rfl, _, rfl, f, ys, at', _, rfl, rfl, .of gf5, atI_nat hya, _, rfl, 1, rfl, f, ys, -1, _, rfl, rfl, .of gf5, atI_neg hyl, pa', pl, xa, xl, rfl, rfl, (Hd_some hpa).2, (Hd_some hpl).2, by rw [sizeLine_eq]; omega, fun pq hpq => ?_⟩
          have s7 := same_up (o := .lst (xa ++ xl)) hpq
          refine ⟨f :: S, _, La ++ Ll, rfl, at_new ow5 hpq (hxa.app hxl), ow5.same s7, fun pz xs hpz az => ?_⟩
          have s8 := s7.trans (same_up (o := .lst xs) hpz)
          refine ⟨_, rfl, _, rfl, f, ys, at', at', rfl, rfl, s8 _ _ gf5, ix, ?_⟩
          have hlast : (ys.set at' (V.ref pz))[(ys.set at' (V.ref pz)).length - 1]? = some ((ys.set at' (V.ref pz))[(ys.set at' (V.ref pz)).length - 1]'(by rw [List.length_set]; omega)) := List.getElem?_eq_getElem _
          refine ⟨_, rfl, .inl ⟨rfl, _, .of upd_same⟩, f, _, _, rfl, rfl, upd_same, hlast, ?_⟩
          rw [upd_upd]
          refine put _ (L0.set at' (srt (La ++ Ll))).dropLast _ (s5.trans s8) (((aF5.up s8).set at' az).but) (by rw [List.length_dropLast, List.length_set]; omega) fun x hx => ?_
          rw [List.dropLast_eq_take] at hx
          rcases List.mem_or_eq_of_mem_set (List.mem_of_mem_take hx) with hx | hx
          · exact bnd x hx
          · rw [hx, srt_len, List.length_append]; omega
end
end Pw
end
section
set_option linter.all false
set_option maxRecDepth 100000
set_option maxHeartbeats 2000000
/-! Numbers 4: what a task's plans are. -/
namespace Pw
theorem TaskOk.tall {st wi : List Spot} (h : TaskOk st wi) {s : Spot} (hs : s ∈ lack st wi) : s.2 ≠ [] := fun e => by
  have := h.roots s hs
  rw [← e] at this
  exact (mem_lack.mp hs).2 this
theorem TaskOk.under {st wi : List Spot} (h : TaskOk st wi) {s : Spot} (hs : s ∈ lack st wi) : parS s ∈ st ∨ parS s ∈ lack st wi := by
  by_cases z : parS s ∈ st
  · exact .inl z
  · exact .inr (mem_lack.mpr ⟨(h.g2 s (mem_lack.mp hs).1).2.2 (h.tall hs), z⟩)
theorem fS_get {mi : List Spot} {i : Nat} (h : i < mi.length) : mi[i]? = some (fS mi i) := by
  rw [List.getElem?_eq_getElem h]
  unfold fS
  rw [List.getD_eq_getElem?_getD, List.getElem?_eq_getElem h]; rfl
theorem numS_of {st wi : List Spot} (h : TaskOk st wi) : NumS st (lack st wi) := by
  have up := lack_up st wi
  refine ⟨fun i j hij hj => ?_, fun i hi hb => ?_, fun i j hi hb => ?_⟩
  · have e1 := List.getElem?_eq_some_iff.mp (fS_get (show i < (lack st wi).length by omega))
    have e2 := List.getElem?_eq_some_iff.mp (fS_get hj)
    have := List.pairwise_iff_getElem.mp up i j e1.1 e2.1 hij
    rw [e1.2, e2.2] at this
    exact this
  · have e := fS_get hi
    have hm := List.mem_of_getElem? e
    unfold bS at hb
    rw [e] at hb
    by_cases z : parS (fS (lack st wi) i) ∈ lack st wi
    · simp [z] at hb
    · exact (h.under hm).elim id fun y => absurd y z
  · have e := fS_get hi
    have hm := List.mem_of_getElem? e
    unfold bS at hb
    rw [e] at hb
    by_cases z : parS (fS (lack st wi) i) ∈ lack st wi
    · simp only [if_pos z] at hb
      injection hb with hb
      subst hb
      have h1 := idxS_lt z
      have h2 := idxS_get z
      rw [fS_get h1] at h2
      injection h2 with h2
      exact ⟨h1, h2, (mem_lack.mp z).2⟩
    · simp [z] at hb
theorem dpS_uniq {st : List Spot} {s : Spot} {n : Nat} (root : (s.1, ([] : W)) ∈ st) (h1 : cutAt s n ∈ st) (h2 : ∀ j, j < n → cutAt s j ∉ st) : dpS st s = n := by
  obtain ⟨_, g2, g3⟩ := dpS_spec root
  rcases Nat.lt_trichotomy (dpS st s) n with z | z | z
  · exact absurd g2 (h2 _ z)
  · exact z
  · exact absurd h1 (g3 _ z)
theorem cut_zero (s : Spot) : cutAt s 0 = s := by
  unfold cutAt
  rw [Nat.sub_zero, List.take_length]
theorem cut_one (s : Spot) : cutAt s 1 = parS s := by
  unfold cutAt parS
  rw [List.dropLast_eq_take]
theorem cut_par {s : Spot} (j : Nat) : cutAt (parS s) j = cutAt s (j + 1) := by
  unfold cutAt parS
  simp only [List.dropLast_eq_take, List.length_take, List.take_take]
  congr 2
  omega
theorem deep_of {st wi : List Spot} (h : TaskOk st wi) : Deep parS st (lack st wi) (dpS st) := by
  have pos : ∀ s ∈ lack st wi, 1 ≤ dpS st s := fun s hs => by
    obtain ⟨_, g2, _⟩ := dpS_spec (h.roots s hs)
    rcases Nat.eq_zero_or_pos (dpS st s) with z | z
    · rw [z, cut_zero] at g2
      exact absurd g2 (mem_lack.mp hs).2
    · exact z
  refine ⟨pos, fun s hs e => ?_, fun s hs e => ?_⟩
  · obtain ⟨_, g2, _⟩ := dpS_spec (h.roots s hs)
    rw [e, cut_one] at g2
    exact g2
  · obtain ⟨_, g2, g3⟩ := dpS_spec (h.roots s hs)
    have n1 : parS s ∉ st := by
      have := g3 1 e
      rwa [cut_one] at this
    refine ⟨(h.under hs).elim (fun z => absurd z n1) id, ?_⟩
    have hp : dpS st (parS s) = dpS st s - 1 := by
      refine dpS_uniq (h.roots s hs) ?_ fun j hj => ?_
      · rw [cut_par, show dpS st s - 1 + 1 = dpS st s by omega]
        exact g2
      · rw [cut_par]
        exact g3 _ (by omega)
    omega
theorem dp_one {st wi : List Spot} (h : TaskOk st wi) : ∀ s ∈ lack st wi, parS s ∈ st → dpS st s = 1 := fun s hs hp => dpS_uniq (h.roots s hs) (by rw [cut_one]; exact hp) fun j hj => by
  have : j = 0 := by omega
  rw [this, cut_zero]
  exact (mem_lack.mp hs).2
theorem row_get (left : List Spot) (d : Spot → Nat) {h : Nat} (hh : h < maxl (left.map d)) : (rowS (left.map d))[h]? = some (over d left h) := by
  unfold rowS
  rw [List.getElem?_map, List.getElem?_range hh]
  show some _ = some _
  congr 1
  show ((left.map d).filter fun d => decide (h < d)).length = left.countP fun s => decide (h < d s)
  rw [List.countP_eq_length_filter, List.filter_map, List.length_map]
  rfl
theorem over_zero (left : List Spot) (d : Spot → Nat) {h : Nat} (hh : maxl (left.map d) ≤ h) : over d left h = 0 := count_zero fun s hs hp => by
  have h1 := maxl_ge (List.mem_map.mpr ⟨s, hs, rfl⟩ : d s ∈ left.map d)
  have h2 := of_decide_eq_true hp
  omega
theorem over_pos (left : List Spot) (d : Spot → Nat) {h : Nat} (hh : h < maxl (left.map d)) : 1 ≤ over d left h := by
  obtain ⟨s, hs, e⟩ := List.mem_map.mp (maxl_mem (show 0 < maxl (left.map d) by omega))
  exact List.countP_pos_iff.mpr ⟨s, hs, decide_eq_true (by omega)⟩
theorem needS_ge (n k : Nat) (h : 1 ≤ k) : n ≤ k * needS n k := by
  rw [needS_eq n k h]
  have e := Nat.div_add_mod n k
  have lt := Nat.mod_lt n (show 0 < k by omega)
  by_cases z : 0 < n % k
  · rw [if_pos z, Nat.mul_add]; omega
  · rw [if_neg z, Nat.add_zero]; omega
theorem needS_le {n k t : Nat} (h : 1 ≤ k) (hn : n ≤ k * t) : needS n k ≤ t := by
  unfold needS
  have : n + k - 1 < k * (t + 1) := by rw [Nat.mul_add]; omega
  exact Nat.le_of_lt_succ (Nat.div_lt_of_lt_mul this)
theorem bnd_of {st wi : List Spot} {k h : Nat} (hh : h < maxl ((lack st wi).map (dpS st))) : bndAt (rowT st wi) k h = h + needS (over (dpS st) (lack st wi) h) k := by
  unfold bndAt rowT
  rw [row_get _ _ hh]
theorem rowT_len (st wi : List Spot) : (rowT st wi).length = maxl ((lack st wi).map (dpS st)) := by
  unfold rowT rowS
  rw [List.length_map, List.length_range]
theorem few_ok (st wi : List Spot) {k : Nat} (hk : 1 ≤ k) (h : Nat) : over (dpS st) (lack st wi) h ≤ k * (fewT st wi k - h) := by
  rcases Nat.lt_or_ge h (maxl ((lack st wi).map (dpS st))) with z | z
  · have b : bndAt (rowT st wi) k h ≤ fewT st wi k := maxl_ge (List.mem_map.mpr ⟨h, List.mem_range.mpr (by rw [rowT_len]; exact z), rfl⟩)
    rw [bnd_of z] at b
    refine Nat.le_trans (needS_ge _ k hk) (Nat.mul_le_mul_left _ ?_)
    omega
  · rw [over_zero _ _ z]; exact Nat.zero_le _
theorem few_least (st wi : List Spot) {k : Nat} (hk : 1 ≤ k) {T : Nat} (hT : ∀ h, over (dpS st) (lack st wi) h ≤ k * (T - h)) : fewT st wi k ≤ T := by
  rcases Nat.eq_zero_or_pos (fewT st wi k) with z | z
  · omega
  · have hm : fewT st wi k ∈ bnds (rowT st wi) k := maxl_mem z
    unfold bnds at hm
    obtain ⟨h, hh, e⟩ := List.mem_map.mp hm
    have hh := List.mem_range.mp hh
    rw [rowT_len] at hh
    rw [← e, bnd_of hh]
    have p := over_pos _ _ hh
    have t := hT h
    have n := needS_le hk t
    have : T - h ≠ 0 := fun y => by rw [y, Nat.mul_zero] at t; omega
    omega
theorem few_lt {st wi : List Spot} (h : TaskOk st wi) {k : Nat} (hk : 1 ≤ k) : fewT st wi k < 30 := by
  have : fewT st wi k ≤ 26 := few_least st wi hk fun j => by
    rcases Nat.lt_or_ge j 16 with z | z
    · have h1 : over (dpS st) (lack st wi) j ≤ 10 := Nat.le_trans List.countP_le_length h.few
      have h2 : 1 * (26 - j) ≤ k * (26 - j) := Nat.mul_le_mul_right _ hk
      omega
    · have : over (dpS st) (lack st wi) j = 0 := count_zero fun s hs hp => by
        have := h.dep s hs
        have := of_decide_eq_true hp
        omega
      omega
  omega
theorem plansT_ne {st wi : List Spot} (h : TaskOk st wi) {k : Nat} (hk : 1 ≤ k) : plansT st wi k ≠ [] :=
  plans_some hk (deep_of h) (dp_one h) (lack_up st wi) (few_ok st wi hk) fun T' hT => few_least st wi hk hT
theorem plansT_up (st wi : List Spot) (k : Nat) : Up (plansT st wi k) := plans_up parS k _ (lack_up st wi)
theorem gf_cons {st mi : List Spot} {k : Nat} {m : List Spot} {P : List (List Spot)} : GF st mi k (m :: P) ↔ SG st mi k m ∧ GF (st ++ m) mi k P := by
  constructor
  · intro h
    refine ⟨?_, fun i x e => ?_⟩
    · have := h 0 m rfl
      simpa using this
    · have := h (i + 1) x (by simpa using e)
      rw [List.take_succ_cons, List.flatten_cons, ← List.append_assoc] at this
      exact this
  · rintro ⟨h1, h2⟩ i x e
    cases i with
    | zero =>
      have e' : m = x := by simpa using e
      subst e'
      simpa using h1
    | succ i =>
      rw [List.take_succ_cons, List.flatten_cons, ← List.append_assoc]
      exact h2 i x (by simpa using e)
theorem good_pf {mi : List Spot} {k : Nat} : ∀ (ss : List (List Spot)) (st left : List Spot), (∀ s, s ∈ left ↔ s ∈ mi ∧ s ∉ st) → (Good parS k st left ss ↔ PF st mi k ss)
  | [], st, left, hl => by
    show left = [] ↔ _
    constructor
    · intro e
      refine ⟨fun i x z => by simp at z, fun s hs => ?_⟩
      rw [List.flatten_nil, List.append_nil]
      refine Classical.byContradiction fun n => ?_
      have := (hl s).mpr ⟨hs, n⟩
      rw [e] at this; cases this
    · rintro ⟨_, h⟩
      cases left with
      | nil => rfl
      | cons x l =>
        obtain ⟨h1, h2⟩ := (hl x).mp List.mem_cons_self
        have := h x h1
        rw [List.flatten_nil, List.append_nil] at this
        exact absurd this h2
  | m :: P, st, left, hl => by
    have ih := good_pf (mi := mi) (k := k) P (st ++ m) (wo left m) fun s => by
      rw [mem_wo, hl, List.mem_append, and_assoc]
      exact and_congr Iff.rfl ⟨fun ⟨a, b⟩ z => z.elim a b, fun z => ⟨fun y => z (.inl y), fun y => z (.inr y)⟩⟩
    show (_ ∧ Good parS k (st ++ m) (wo left m) P) ↔ _
    rw [ih]
    unfold PF
    rw [gf_cons, List.flatten_cons, ← List.append_assoc]
    constructor
    · rintro ⟨⟨a, b, c, d⟩, e, f⟩
      exact ⟨⟨⟨a, b, c, fun s hs => ⟨((hl s).mp (d s hs).1).1, ((hl s).mp (d s hs).1).2, (d s hs).2⟩⟩, e⟩, f⟩
    · rintro ⟨⟨⟨a, b, c, d⟩, e⟩, f⟩
      exact ⟨⟨a, b, c, fun s hs => ⟨(hl s).mpr ⟨(d s hs).1, (d s hs).2.1⟩, (d s hs).2.2⟩⟩, e, f⟩
theorem plansT_pf (st wi : List Spot) (k : Nat) (ss : List (List Spot)) : ss ∈ plansT st wi k ↔ ss.length = fewT st wi k ∧ PF st (lack st wi) k ss := by
  unfold plansT
  rw [mem_plans parS k _ (lack_up st wi), good_pf ss st (lack st wi) fun s => by
    rw [mem_lack]
    exact ⟨fun h => ⟨h, h.2⟩, fun h => h.1⟩]
/-! ### the same by other lists of the same spots -/
section
variable {st st' wi wi' : List Spot} (h1 : ∀ s, s ∈ st' ↔ s ∈ st) (h2 : ∀ s, s ∈ wi' ↔ s ∈ wi)
include h1 h2
theorem lack_same : lack st' wi' = lack st wi := Up.ext (lack_up _ _) (lack_up _ _) fun s => by rw [mem_lack, mem_lack, h1, h2]
omit h2 in
theorem dpS_same (s : Spot) : dpS st' s = dpS st s := by
  unfold dpS
  congr 1
  funext m
  exact decide_eq_decide.mpr (h1 _)
theorem rowT_same : rowT st' wi' = rowT st wi := by
  unfold rowT
  rw [lack_same h1 h2, show dpS st' = dpS st from funext (dpS_same h1)]
theorem fewT_same (k : Nat) : fewT st' wi' k = fewT st wi k := by
  unfold fewT
  rw [rowT_same h1 h2]
theorem plansT_same (k : Nat) : plansT st' wi' k = plansT st wi k := by
  unfold plansT
  rw [lack_same h1 h2, fewT_same h1 h2]
  exact plans_st parS k _ h1 _
theorem task_same (h : TaskOk st wi) (l1 : st'.length < 64) (l2 : wi'.length < 64) : TaskOk st' wi' := by
  refine ⟨l1, l2, fun s hs => ?_, fun s hs => ?_, fun s hs => ?_, fun s hs n1 n2 hp => ?_, ?_⟩
  · obtain ⟨a, b, c⟩ := h.g1 s ((h1 s).mp hs)
    exact ⟨a, b, fun z => (h1 _).mpr (c z)⟩
  · obtain ⟨a, b, c⟩ := h.g2 s ((h2 s).mp hs)
    exact ⟨a, b, fun z => (h2 _).mpr (c z)⟩
  · obtain ⟨t, ht, e⟩ := h.tr s ((h2 s).mp hs)
    exact ⟨t, (h1 t).mpr ht, e⟩
  · exact h.fr s ((h1 s).mp hs) (fun z => n1 ((h2 s).mpr z)) n2 ((h2 _).mp hp)
  · rw [lack_same h1 h2]; exact h.few
end
end Pw
end
section
set_option linter.all false
set_option maxRecDepth 100000
set_option maxHeartbeats 2000000
/-! Law 12: told. -/
namespace Pw
open PySem PySem.Spec PyProof.Rows L2
theorem takesNo {X : Cx} : Takes X (fun _ _ _ _ => False) := fun _ _ x => by
  obtain ⟨_, _, _, _, _, _, _, _, _, _, _, _, _, _, _, _, z⟩ := x
  exact z.elim
theorem passE0 {X : Cx} : Passes (L2.CX X.prog X.w) X E0 := fun _ _ _ _ _ _ _ h => by
  obtain ⟨_, _, _, _, _, _, _, _, _, _, _, _, z⟩ := h
  exact z.elim
section
variable {P : Program} {w : World} {K : PySem.W.Frag} {mg : Str → Option Value} {base : Heap}
theorem b_numbered (T : Tx K mg) : Binds K T.fd_numbered (["standing", "wished", "number", "sap"] : List Str) [] := by
  obtain ⟨ds, h1, h2⟩ := T.F_numbered.binds1 (ps := ["standing", "wished", "number", "sap"]) 4 1 (by simp) rfl fun D kV doc pm an cdv ct us its hl hi => match us, its, hl, hi with
    | [_, _, _, _], [_], _, _ => ⟨_, rfl, rfl⟩
  cases h1
  exact h2
theorem b3_numbered (T : Tx K mg) : ∃ ds, Vals [V.int 2] ds ∧ Binds K T.fd_numbered (["standing", "wished", "number", "sap"] : List Str) ds :=
  T.F_numbered.binds1 (ps := ["standing", "wished", "number", "sap"]) 3 0 (by simp) rfl fun D kV doc pm an cdv ct us its hl hi => match us, its, hl, hi with
    | [_, _, _], [_], _, _ => ⟨_, rfl, rfl⟩
theorem b_rank_of (T : Tx K mg) : Binds K T.fd_rank_of (["standing", "wished", "plan", "sap"] : List Str) [] := by
  obtain ⟨ds, h1, h2⟩ := T.F_rank_of.binds1 (ps := ["standing", "wished", "plan", "sap"]) 4 1 (by simp) rfl fun D kV doc pm an cdv ct us its hl hi => match us, its, hl, hi with
    | [_, _, _, _], [_], _, _ => ⟨_, rfl, rfl⟩
  cases h1
  exact h2
theorem b3_rank_of (T : Tx K mg) : ∃ ds, Vals [V.int 2] ds ∧ Binds K T.fd_rank_of (["standing", "wished", "plan", "sap"] : List Str) ds :=
  T.F_rank_of.binds1 (ps := ["standing", "wished", "plan", "sap"]) 3 0 (by simp) rfl fun D kV doc pm an cdv ct us its hl hi => match us, its, hl, hi with
    | [_, _, _], [_], _, _ => ⟨_, rfl, rfl⟩
abbrev s__law_told : Stmt := top 67
theorem sc__law_told : FnScope ["_law_standing", "_law_wished", "_law_number", "_law_sap", "_law_found"] ["_law_standing", "_law_wished", "_law_number", "_law_sap"] (defScope s__law_told) := ⟨rfl, rfl, rfl, by decide +kernel, rfl, by decide +kernel, by decide +kernel⟩
def spTold : Sp := fun vs H Q _ => ∃ (S : List Addr) (v1 v2 : V) (st wi : List Spot) (num : Int) (k : Nat), vs = [v1, v2, .int num, .int k] ∧ At (Hd S H) eSpots v1 st ∧ At (Hd S H) eSpots v2 wi ∧ Own S H ∧ TaskOk st wi ∧ 1 ≤ k ∧ k ≤ 300 ∧
  (∀ p H' r, 0 ≤ num → (plansT st wi k)[num.toNat]? = some r → Same H H' → PlanAt K S H' p r → Q (.ref p) H') ∧
  (¬ (0 ≤ num ∧ num < ((plansT st wi k).length : Nat)) → ∀ H', Same H H' → Q .non H')
theorem ok__law_told (T : Tx K mg) (Z : TxE K) : FnOk P w K mg base CX0 36 (He.ga K "_law_told") T.fd__law_told ["_law_standing", "_law_wished", "_law_number", "_law_sap"] (spTold (K := K)) := by
  refine T.F__law_told.ok sc__law_told (fun vs H Q E h => ?_) (fun cdv A outer s H vs Q E hr h => ?_)
  · obtain ⟨S, v1, v2, st, wi, num, k, rfl, _⟩ := h; rfl
  · obtain ⟨S, v1, v2, st, wi, num, k, rfl, hv1, hv2, ow, tk, hk1, hk2, qok, qno⟩ := h
    refine ⟨_, (pss_cons (ps_set (i := 4) sc__law_told.nd rfl (Or.inl rfl) pe_non)
      (pss_cons (ps_try_only (tb := fun W => tAsg (tCallS (spNumbered (K := K)) (WE W) (tCons (tVar 0) (tCons (tVar 1) (tCons (tVar 2) (tCons (tVar 3) tNil))))) (gName 4)) (ts := fun _ _ _ => tAsg (tC .non) (gName 4)) (Wout := fun _ _ _ _ => False) rfl rfl ⟨rfl, by decide, .inl T.g_BadNumber⟩ takesNo (fun W pn xe tk _ => pss_one (ps_set (i := 4) sc__law_told.nd rfl (Or.inl rfl) (by exact (pe_callS (ok_numbered T Z) (hr.mono (by decide)) rfl T.g_numbered T.F_numbered.kp (b_numbered T) (fun σ => passAt tk σ) (by exact (pa_cons (pv 0) (pa_cons (pv 1) (pa_cons (pv 2) (pa_cons (pv 3) pa_nil))))))))) (fun a oe cls d pn _ _ => pss_one (ps_set (i := 4) sc__law_told.nd rfl (Or.inl rfl) pe_non)))
      (pss_one (ps_ret (pv 4))))), ?_⟩
    refine ⟨_, rfl, _, rfl, _, rfl, _, rfl, S, v1, v2, st, wi, num, k, rfl, hv1, hv2, ow, tk, numS_of tk, few_lt tk hk1, hk1, hk2, fun p H' r h0 hr' sm hp => ?_, fun n d H' sm => ?_⟩
    · exact ⟨_, rfl, qok p H' r h0 hr' sm hp⟩
    · exact ⟨true, T.e_BadNumber, fun _ a ha => ⟨_, rfl, qno n H' sm⟩, fun q => nomatch q⟩
end
end Pw
end
section
set_option linter.all false
set_option maxRecDepth 100000
set_option maxHeartbeats 4000000
/-! Law 13: law. -/
namespace Pw
open PySem PySem.Spec PyProof.Rows L2
def fiveI (n : Nat) (z : Int) : List Int := [0, (n : Int) - 1, (n : Int), -1, z]
theorem perm_take {α : Type} {m l : List α} (h : m.Perm l) (n : Nat) (s : α) : s ∈ m ++ l.take n ↔ s ∈ l := by
  rw [List.mem_append, h.mem_iff]
  exact ⟨fun z => z.elim id List.mem_of_mem_take, .inl⟩
theorem sml_pl (n : Nat) {r : List (List Spot)} (h1 : r.length ≤ 1000) (h2 : ∀ x ∈ r, x.length ≤ 1000) : sml (n + 4) (ePl.e r) := by
  refine .inr ⟨_, .inl rfl, by rw [List.length_map]; exact h1, fun d hd => ?_⟩
  obtain ⟨x, hx, rfl⟩ := List.mem_map.mp hd
  refine .inr ⟨_, .inl rfl, by rw [List.length_map]; exact h2 x hx, fun d hd => ?_⟩
  obtain ⟨s, hs, rfl⟩ := List.mem_map.mp hd
  refine .inr ⟨_, .inr rfl, (show 2 ≤ 1000 by decide), fun d hd => ?_⟩
  rcases List.mem_cons.mp hd with rfl | hd
  · exact .inl trivial
  · rw [List.mem_singleton.mp hd]; exact .inl trivial
theorem plan_small {st wi : List Spot} {k : Nat} {r : List (List Spot)} (h : r ∈ plansT st wi k) (hf : fewT st wi k < 30) (hk : k ≤ 5) : r.length < 30 ∧ ∀ x ∈ r, x.length ≤ 5 := by
  obtain ⟨h1, h2, _⟩ := (plansT_pf st wi k r).mp h
  refine ⟨by omega, fun x hx => ?_⟩
  obtain ⟨i, hi⟩ := List.mem_iff_getElem?.mp hx
  have := (h2 i x hi).2.1
  omega
theorem up_get {α : Type} [LT α] [STO α] {l : List α} (h : Up l) {i j : Nat} {x : α} (hi : l[i]? = some x) (hj : l[j]? = some x) : i = j := by
  obtain ⟨a1, a2⟩ := List.getElem?_eq_some_iff.mp hi
  obtain ⟨b1, b2⟩ := List.getElem?_eq_some_iff.mp hj
  rcases Nat.lt_trichotomy i j with z | z | z
  · have := List.pairwise_iff_getElem.mp h i j a1 b1 z
    rw [a2, b2] at this
    exact absurd this (STO.irr x)
  · exact z
  · have := List.pairwise_iff_getElem.mp h j i b1 a1 z
    rw [a2, b2] at this
    exact absurd this (STO.irr x)
section
variable {P : Program} {w : World} {K : PySem.W.Frag} {mg : Str → Option Value} {base : Heap}
theorem ok__law_same (T : Tx K mg) : FnOk P w K mg base CX0 9 (He.ga K "_law_same") T.fd__law_same ["_law_found", "_law_due"] (spSame 8) := ok_law_same_B T 8
abbrev s_law : Stmt := top 68
theorem sc_law : FnScope ["_law_script", "_law_hat_here", "_law_standing", "_law_wished", "_law_sap", "_law_plans", "_law_handed", "_law_kept", "_law_numbers", "_law_number", "_law_found", "_law_other", "_law_due", "_law_row_here", "_law_k"] ["_law_script"] (defScope s_law) := ⟨rfl, rfl, rfl, by decide +kernel, rfl, by decide +kernel, by decide +kernel⟩
def spLaw : Sp := fun vs H Q _ => ∃ (a : Addr) (ns : List Int), vs = [.ref a] ∧ SqL K H a (ns.map V.int) ∧ ns.length ≤ 63 ∧ ∀ H', Q (.bl true) H'
theorem ok_law (T : Tx K mg) (Z : TxE K) : FnOk P w K mg base CX0 37 (He.ga K "law") T.fd_law ["_law_script"] (spLaw (K := K)) := by
  refine T.F_law.ok sc_law (fun vs H Q E h => ?_) (fun cdv A outer s H vs Q E hr h => ?_)
  · obtain ⟨a, ns, rfl, _⟩ := h; rfl
  · obtain ⟨a0, ns, rfl, hs, hl, q⟩ := h
    have hu65 := hu65_of hr
    obtain ⟨dr, hvr, hbr⟩ := b3_rank_of T
    obtain ⟨dn, hvn, hbn⟩ := b3_numbered T
    refine ⟨_, (pss_cons (ps_set (i := 1) sc_law.nd rfl (Or.inr rfl) (pe_call (ok__law_hat T) (hr.mono (by decide)) rfl T.g__law_hat T.F__law_hat.kp (b__law_hat T) .nil pass0 (pa_cons (pv 0) pa_nil)))
      (pss_cons (ps_asg (pe_call (ok__law_free_task T) (hr.mono (by decide)) rfl T.g__law_free_task T.F__law_free_task.kp (b__law_free_task T) .nil pass0 (pa_cons (pv 1) (pa_cons pe_int (pa_cons pe_int (pa_cons pe_int pa_nil))))) (k_pgT K rfl (n := 2) rfl (pgs_cons (pg_name (i := 2) sc_law.nd rfl (Or.inl rfl)) (pgs_cons (pg_name (i := 3) sc_law.nd rfl (Or.inl rfl)) pgs_nil))))
      (pss_cons (ps_set (i := 4) sc_law.nd rfl (Or.inl rfl) (pe_op op_add pe_int (pe_call (ok__law_take T) (hr.mono (by decide)) rfl T.g__law_take T.F__law_take.kp (b__law_take T) .nil pass0 (pa_cons (pv 1) (pa_cons pe_int pa_nil)))))
      (pss_cons (ps_set (i := 5) sc_law.nd rfl (Or.inr rfl) (pe_callB (cr_sortA (sb_list (A := eSpots)) (hu := hu65)) rfl T.f_sorted (by decide +kernel) (pa_cons (pe_call (ok__law_all_quickest T) (hr.mono (by decide)) rfl T.g__law_all_quickest T.F__law_all_quickest.kp (b__law_all_quickest T) .nil pass0 (pa_cons (pv 2) (pa_cons (pv 3) (pa_cons (pv 4) pa_nil)))) pa_nil)))
      (pss_cons (ps_set (i := 6) sc_law.nd rfl (Or.inl rfl) (pe_lst (pa_cons (pe_op op_cat (pe_call (ok__law_mixed T) (hr.mono (by decide)) rfl T.g__law_mixed T.F__law_mixed.kp (b__law_mixed T) .nil pass0 (pa_cons (pv 1) (pa_cons (pv 2) pa_nil))) (pe_slice (k_slL K rfl) (pv 2) po_none (po_some pe_int))) (pa_cons (pe_op op_cat (pe_call (ok__law_mixed T) (hr.mono (by decide)) rfl T.g__law_mixed T.F__law_mixed.kp (b__law_mixed T) .nil pass0 (pa_cons (pv 1) (pa_cons (pv 3) pa_nil))) (pe_slice (k_slL K rfl) (pv 3) po_none (po_some pe_int))) pa_nil))))
      (pss_cons (ps_setLc (i := 7) (own := [("_law_row_here", 13)]) rfl sc_law.nd rfl rfl (sw_true rfl rfl rfl (by decide +kernel)) (k_piL K rfl (pv 6)) (blkOk_by (own := [("_law_row_here", 13)]) (N := ["_law_script", "_law_hat_here", "_law_standing", "_law_wished", "_law_sap", "_law_plans", "_law_handed", "_law_kept", "_law_numbers", "_law_number", "_law_found", "_law_other", "_law_due", "_law_row_here", "_law_k"]) (sc := (defScope s_law)) (by decide +kernel)) (fun _ _ _ _ _ => (pg_name (i := 13) sc_law.nd rfl (Or.inl rfl))) (fun _ _ _ _ _ => pts_nil) (fun _ _ _ _ _ => (pe_callTy (k_listOf K rfl) rfl T.f_list (by decide +kernel) (pa_cons (pv 13) pa_nil))))
      (pss_cons (ps_set (i := 8) sc_law.nd rfl (Or.inl rfl) (pe_op op_cat (pe_lst (pa_cons pe_int (pa_cons (pe_op op_sub (pe_callB (k_len K rfl) rfl T.f_len PySem.boot_len (pa_cons (pv 5) pa_nil)) pe_int) (pa_cons (pe_callB (k_len K rfl) rfl T.f_len PySem.boot_len (pa_cons (pv 5) pa_nil)) (pa_cons (pe_un un_neg pe_int) (pa_cons (pe_call (ok__law_odd T) (hr.mono (by decide)) rfl T.g__law_odd T.F__law_odd.kp (b__law_odd T) .nil pass0 (pa_cons (pv 1) pa_nil)) pa_nil)))))) (pe_lc (own := [("_law_k", 14)]) rfl sc_law.nd (pi_range1 (by rfl) T.f_range (pa_cons pe_int pa_nil)) (blkOk_by (own := [("_law_k", 14)]) (N := ["_law_script", "_law_hat_here", "_law_standing", "_law_wished", "_law_sap", "_law_plans", "_law_handed", "_law_kept", "_law_numbers", "_law_number", "_law_found", "_law_other", "_law_due", "_law_row_here", "_law_k"]) (sc := (defScope s_law)) (by decide +kernel)) (fun _ _ _ _ _ => (pg_name (i := 14) sc_law.nd rfl (Or.inl rfl))) (fun _ _ _ _ _ => pts_nil) (fun _ _ _ _ _ => (pe_call (ok__law_take T) (hr.mono (by decide)) rfl T.g__law_take T.F__law_take.kp (b__law_take T) .nil pass0 (pa_cons (pv 1) (pa_cons (pe_callB (k_len K rfl) rfl T.f_len PySem.boot_len (pa_cons (pv 5) pa_nil)) pa_nil)))))))
      (pss_cons (ps_for PassesOwn.leaving rfl (k_piL K rfl (pv 8)) (pg_name (i := 9) sc_law.nd rfl (Or.inl rfl))
      (pss_cons (ps_set (i := 10) sc_law.nd rfl (Or.inl rfl) (pe_call (ok__law_told T Z) (hr.mono (by omega)) rfl T.g__law_told T.F__law_told.kp (b__law_told T) .nil pass0 (pa_cons (pe_ix (k_ixL K rfl) (pv 6) pe_int (fun _ _ => rfl)) (pa_cons (pe_ix (k_ixL K rfl) (pv 6) pe_int (fun _ _ => rfl)) (pa_cons (pv 9) (pa_cons (pv 4) pa_nil))))))
      (pss_cons (ps_if (pt_cmpR op_ne (pe_cmpR op_isN (pv 10) pe_non (nomark _)) (pe_not (pe_chain op_le op_lt pe_int (pv 9) (pe_callB (k_len K rfl) rfl T.f_len PySem.boot_len (pa_cons (pv 5) pa_nil)))) (nomark _)) (pss_one (ps_ret pe_bl)) pss_nil)
      (pss_one (ps_if (pt_cmpR op_notN (pv 10) pe_non (nomark _)) (pss_cons (ps_if (pt_not (pt_val (pe_call (ok__law_same T) (hr.mono (by decide)) rfl T.g__law_same T.F__law_same.kp (b__law_same T) .nil pass0 (pa_cons (pe_meth0 (pv 10) T.c_Plan T.m_Plan_seasons (ok_Plan_seasons T) (hr.mono (by decide)) (b_Plan_seasons T) .nil pass0) (pa_cons (pe_ix (k_ixL K rfl) (pv 5) (pv 9) (fun _ _ => rfl)) pa_nil))))) (pss_one (ps_ret pe_bl)) pss_nil)
      (pss_cons (ps_if (PW.pt (pw_or (pt_not (pt_val (pe_call (ok__law_same T) (hr.mono (by decide)) rfl T.g__law_same T.F__law_same.kp (b__law_same T) .nil pass0 (pa_cons (pe_call (ok_rank_of T) (hr.mono (by decide)) rfl T.g_rank_of T.F_rank_of.kp (b_rank_of T) .nil pass0 (pa_cons (pe_ix (k_ixL K rfl) (pv 6) pe_int (fun _ _ => rfl)) (pa_cons (pe_ix (k_ixL K rfl) (pv 6) pe_int (fun _ _ => rfl)) (pa_cons (pv 10) (pa_cons (pv 4) pa_nil))))) (pa_cons (pv 9) pa_nil))))) (pw_or1 (pt_cmpR (k_ne K rfl hu65) (pv 6) (pv 7) (nomark _))))) (pss_one (ps_ret pe_bl)) pss_nil)
      (pss_cons (ps_set (i := 11) sc_law.nd rfl (Or.inl rfl) (pe_call (ok__law_bent_plan T) (hr.mono (by decide)) rfl T.g__law_bent_plan T.F__law_bent_plan.kp (b__law_bent_plan T) .nil pass0 (pa_cons (pv 1) (pa_cons (pe_ix (k_ixL K rfl) (pv 5) (pv 9) (fun _ _ => rfl)) (pa_cons (pe_op op_cat (pv 3) (pe_lst (pa_cons (pe_tup (pa_cons pe_str (pa_cons pe_str pa_nil))) pa_nil))) pa_nil)))))
      (pss_cons (ps_set (i := 12) sc_law.nd rfl (Or.inl rfl) (pe_ifExp (pt_cmpR (k_in K rfl hu65) (pv 11) (pv 5) (by rfl)) (pe_bm PySem.F.plainAttrs_list PySem.F.slot_list_index PySem.F.type_list_index (k_index K rfl hu65) (pv 5) (pa_cons (pv 11) pa_nil)) pe_non))
      (pss_one (ps_if (pt_not (pt_val (pe_call (ok__law_same T) (hr.mono (by decide)) rfl T.g__law_same T.F__law_same.kp (b__law_same T) .nil pass0 (pa_cons (pe_call (ok_rank_of T) (hr.mono (by decide)) rfl T.g_rank_of T.F_rank_of.kp (b_rank_of T) .nil pass0 (pa_cons (pe_ix (k_ixL K rfl) (pv 6) pe_int (fun _ _ => rfl)) (pa_cons (pe_ix (k_ixL K rfl) (pv 6) pe_int (fun _ _ => rfl)) (pa_cons (pe_make T.k_Plan (ok_Plan_init T) (hr.mono (by decide)) rfl T.g_Plan (b_Plan_init T) .nil pass0 (pa_cons (pv 11) pa_nil)) (pa_cons (pv 4) pa_nil))))) (pa_cons (pv 12) pa_nil))))) (pss_one (ps_ret pe_bl)) pss_nil)))))) pss_nil)))))
      (pss_cons (ps_if (pt_cmpR op_ne (pe_call (ok_rank_of T) (hr.mono (by decide)) rfl T.g_rank_of T.F_rank_of.kp hbr hvr pass0 (pa_cons (pv 2) (pa_cons (pv 3) (pa_cons (pe_call (ok_numbered T Z) (hr.mono (by decide)) rfl T.g_numbered T.F_numbered.kp hbn hvn passE0 (pa_cons (pv 2) (pa_cons (pv 3) (pa_cons pe_int pa_nil)))) pa_nil)))) pe_int (nomark _)) (pss_one (ps_ret pe_bl)) pss_nil)
      (pss_one (ps_ret (pe_cmpR op_eq (pe_call (ok_rank_of T) (hr.mono (by decide)) rfl T.g_rank_of T.F_rank_of.kp (b_rank_of T) .nil pass0 (pa_cons (pv 2) (pa_cons (pv 3) (pa_cons (pe_call (ok_numbered T Z) (hr.mono (by decide)) rfl T.g_numbered T.F_numbered.kp (b_numbered T) .nil passE0 (pa_cons (pv 2) (pa_cons (pv 3) (pa_cons pe_int (pa_cons pe_int pa_nil))))) (pa_cons pe_int pa_nil))))) pe_int (nomark _))))))))))))), ?_⟩
    refine ⟨_, rfl, a0, ns, rfl, hs, hl, fun a H1 na sm1 hatS => ?_⟩
    have hat1 := hatS [] Own.nil
    have ow1 : Own [a] H1 := fun b hb => by
      obtain ⟨o, e⟩ := hat1.some
      rw [List.mem_singleton.mp hb, e]
      intro z; cases z
    have haS : a ∈ [a] := List.mem_singleton.mpr rfl
    refine ⟨_, rfl, [a], a, rfl, hat1, ow1, fun u vst vwi st wi H2 tf hu ast awi fz2 hat2 ow2 => ?_⟩
    refine ⟨u, _, rfl, .of hu, rfl, _, _, rfl, _, _, rfl, rfl, ?_⟩
    have t24 := tf.st24
    have t54 := tf.wi54
    refine ⟨_, rfl, [a], a, 5, rfl, by decide, by decide, hat2, ow2, fun r3 H3 hr3 fz3 hat3 ow3 => ⟨_, _, rfl, rfl, ?_⟩⟩
    obtain ⟨k, hk, hk1, hk5⟩ : ∃ k : Nat, (1 : Int) + ((r3 : Nat) : Int) = ((k : Nat) : Int) ∧ 1 ≤ k ∧ k ≤ 5 := ⟨1 + r3, by omega, by omega, by omega⟩
    show gName 4 (V.int ((1 : Int) + ((r3 : Nat) : Int))) _ _ _
    rw [hk]
    have ast3 := ast.fz fz3
    have awi3 := awi.fz fz3
    refine ⟨_, rfl, _, rfl, _, rfl, [a], vst, vwi, st, wi, k, rfl, ast3, awi3, ow3, tf, hk1, by omega, few_lt tf.ok hk1, fun up H4 s4 aup => ?_⟩
    refine ⟨[a], _, _, rfl, aup, ow3.same s4, fun pP xs hpP aP => ?_⟩
    have PLup := plansT_up st wi k
    rw [srt_of_up PLup] at aP
    have s34 := s4.trans (same_up (o := .lst xs) hpP)
    have hat5 := hat3.same s34
    have ow5 := ow3.same s34
    have ast5 := ast3.up s34
    have awi5 := awi3.up s34
    generalize upd H4 pP (.lst xs) = H5 at aP s34 hat5 ow5 ast5 awi5
    clear hpP aup s4
    -- the handed lists
    refine ⟨_, rfl, _, rfl, [a], a, vst, st, rfl, hat5, ow5, ast5, by omega, fun um1 m1 H6 pm1 am1 fz6 hat6 ow6 => ?_⟩
    have ast6 := ast5.fz fz6
    obtain ⟨pst, xst, rfl, hpst, hxst⟩ := id ast6.list
    refine ⟨_, rfl, 1, rfl, pst, xst, rfl, .of (Hd_some hpst).2, fun p1 hp1 => ?_⟩
    rw [show (some (1 : Int)) = some ((1 : Nat) : Int) from rfl, cutv_hi]
    have s7 := same_up (o := .lst (xst.take 1)) hp1
    have ap1 := (hxst.up s7).take 1
    obtain ⟨pm, xm, rfl, hpm, hxm⟩ := id (am1.up s7).list
    have lxm := hxm.len
    have lpm1 := pm1.length_eq
    have lx1 : (xst.take 1).length ≤ 1 := by rw [List.length_take]; omega
    refine ⟨pm, p1, xm, xst.take 1, rfl, rfl, (Hd_some hpm).2, upd_same, by rw [sizeLine_eq]; omega, fun q1 hq1 => ?_⟩
    have s8 := same_up (o := .lst (xm ++ xst.take 1)) hq1
    have aq1 := at_new (ow6.same s7) hq1 (hxm.app ap1)
    have s68 := s7.trans s8
    have hat8 := hat6.same s68
    have ow8 := ow6.same s68
    have awi8 := (awi5.fz fz6).up s68
    have aP8 := (aP.fz fz6).up s68
    have ast8 := ast6.up s68
    clear hxm hpm ap1 hxst
    generalize upd (upd H6 p1 (.lst (xst.take 1))) q1 (.lst (xm ++ xst.take 1)) = H8 at aq1 s68 hat8 ow8 awi8 aP8 ast8
    refine ⟨_, rfl, _, rfl, [a], a, vwi, wi, rfl, hat8, ow8, awi8, by omega, fun um2 m2 H9 pm2 am2 fz9 hat9 ow9 => ?_⟩
    have awi9 := awi8.fz fz9
    obtain ⟨pwi, xwi, rfl, hpwi, hxwi⟩ := id awi9.list
    refine ⟨_, rfl, 2, rfl, pwi, xwi, rfl, .of (Hd_some hpwi).2, fun p2 hp2 => ?_⟩
    rw [show (some (2 : Int)) = some ((2 : Nat) : Int) from rfl, cutv_hi]
    have sA := same_up (o := .lst (xwi.take 2)) hp2
    have ap2 := (hxwi.up sA).take 2
    obtain ⟨pn, xn, rfl, hpn, hxn⟩ := id (am2.up sA).list
    have lxn := hxn.len
    have lpm2 := pm2.length_eq
    have lx2 : (xwi.take 2).length ≤ 2 := by rw [List.length_take]; omega
    refine ⟨pn, p2, xn, xwi.take 2, rfl, rfl, (Hd_some hpn).2, upd_same, by rw [sizeLine_eq]; omega, fun q2 hq2 => ⟨two_line, fun vh hvh => ?_⟩⟩
    have sB := same_up (o := .lst (xn ++ xwi.take 2)) hq2
    have aq2 := at_new (ow9.same sA) hq2 (hxn.app ap2)
    have sC := same_up (o := .lst [V.ref q1, .ref q2]) hvh
    have s9C := (sA.trans sB).trans sC
    have owB := (ow9.same sA).same sB
    have aH : At (Hd [a] (upd (upd (upd H9 p2 (.lst (xwi.take 2))) q2 (.lst (xn ++ xwi.take 2))) vh (.lst [V.ref q1, .ref q2]))) ePl (.ref vh) [m1 ++ st.take 1, m2 ++ wi.take 2] := at_new (A := eSpots) owB hvh (Ats.cons ((aq1.fz fz9).up (sA.trans sB)) (Ats.one aq2))
    have hatC := hat9.same s9C
    have owC := ow9.same s9C
    have aPC := (aP8.fz fz9).up s9C
    have astC := (ast8.fz fz9).up s9C
    have awiC := awi9.up s9C
    clear hxn hpn ap2 hxwi aq2 aq1
    generalize upd (upd (upd H9 p2 (.lst (xwi.take 2))) q2 (.lst (xn ++ xwi.take 2))) vh (.lst [V.ref q1, .ref q2]) = HC at aH s9C hatC owC aPC astC awiC
    have mst := perm_take pm1 1
    have mwi := perm_take pm2 2
    have l1 : (m1 ++ st.take 1).length < 64 := by rw [List.length_append, List.length_take]; omega
    have l2 : (m2 ++ wi.take 2).length < 64 := by rw [List.length_append, List.length_take]; omega
    have tkH := task_same mst mwi tf.ok l1 l2
    have plH := plansT_same mst mwi k
    generalize m1 ++ st.take 1 = hS at aH mst l1 tkH plH
    generalize m2 ++ wi.take 2 = hW at aH mwi l2 tkH plH
    -- kept
    obtain ⟨ph, xh, eh, hph, hxh⟩ := id aH.list
    cases eh
    refine ⟨_, rfl, vh, rfl, ⟨_, .of (Hd_some hph).2⟩, fun D hD => ?_⟩
    refine lc_at (A := eSpots) (B := eSpots) (S := [a]) (fun _ => true) (fun l => l) owC hD hph hxh (by show 2 ≤ sizeLine; exact two_line) (fun l hl1 v HE sE wD av NF NT k1 k2 => ?_) (fun HE sE aK => ?_)
    · obtain ⟨px, zs, rfl, hpx, hz⟩ := id av.list
      refine ⟨rfl, _, rfl, px, zs, rfl, .inl (.of (Hd_some hpx).2), fun l1 hl1 => ?_⟩
      exact k2 rfl _ _ (same_up hl1) (at_new wD hl1 hz)
    · rw [ftrue, List.map_id'] at aK
      have hatE := hatC.same sE
      have owE := owC.same sE
      have aPE := aPC.up sE
      have aHE := aH.up sE
      have astE := astC.up sE
      have awiE := awiC.up sE
      -- numbers
      obtain ⟨pP', xP, eP, hpP, hxP⟩ := id aPE.list
      cases eP
      have lP := hxP.len
      have PLne := plansT_ne tf.ok hk1
      have PLpos : 0 < (plansT st wi k).length := List.length_pos_iff.mpr PLne
      have PLlen : (plansT st wi k).length ≤ 2097152 := plans_small (lack_up st wi) tf.few6
      have nPa : pP ∉ [a] := (Hd_some hpP).1
      have gP := (Hd_some hpP).2
      refine ⟨_, rfl, pP, xP, rfl, .inl (.of gP), _, _, rfl, rfl, _, rfl, pP, xP, rfl, .inl (.of gP), 1, rfl, _, rfl, [a], a, rfl, hatE, owE, fun z HF fzF hatF owF => ?_⟩
      refine ⟨by show 5 ≤ sizeLine; rw [sizeLine_eq]; decide, fun pn5 hpn5 => ?_⟩
      have nn : ((xP.length : Nat) : Int) = ((plansT st wi k).length : Nat) := by rw [lP]
      have s5 := same_up (o := .lst [V.int 0, .int ((xP.length : Nat) - 1), .int (xP.length : Nat), .int (-1), .int z]) hpn5
      have g5 : upd HF pn5 (.lst [V.int 0, .int ((xP.length : Nat) - 1), .int (xP.length : Nat), .int (-1), .int z]) pn5 = some (.lst ((fiveI xP.length z).map V.int)) := upd_same
      have hatG := hatF.same s5
      have owG := owF.same s5
      have fzG : Fz [a] HE (upd HF pn5 (.lst [V.int 0, .int ((xP.length : Nat) - 1), .int (xP.length : Nat), .int (-1), .int z])) := fzF.trans (.of s5)
      refine ⟨7, rfl, by decide, by decide, fun D2 hD2 => ?_⟩
      have nDa := hatG.ne hD2
      generalize upd HF pn5 (.lst [V.int 0, .int ((xP.length : Nat) - 1), .int (xP.length : Nat), .int (-1), .int z]) = HG at s5 g5 hatG owG fzG hD2
      have gPG := fzG _ _ nPa gP
      rw [show (7 : Int).toNat = 7 from rfl]
      have kD : D2 ∉ [a] := fun y => nDa (List.mem_singleton.mp y)
      have kP : pP ∉ [D2, a] := fun y => (List.mem_cons.mp y).elim (fun y => by rw [y, hD2] at gPG; cases gPG) nPa
      refine lc_it walk_range (fun i H' => Fz [D2, a] HG H' ∧ HatAt K [D2, a] H' a ∧ Own [D2, a] H' ∧ ∃ rs : List Int, H' D2 = some (.lst (rs.map V.int)) ∧ rs.length = i)
        ⟨.of (same_up hD2), hatG.into (same_up hD2) hD2, own_in owG hD2, [], upd_same, rfl⟩ (fun i H' _ h => trivial) (fun i x HI HJ hi hP hy => ?_) (fun HI hP => ?_)
      · obtain ⟨rfl, rfl⟩ := hy
        obtain ⟨fzI, hatI, owI, rs, gD, lr⟩ := hP
        refine ⟨rfl, _, rfl, _, rfl, pP, xP, rfl, .inl (.of (fzI _ _ kP gPG)), [D2, a], a, xP.length, rfl, by omega, by omega, hatI, owI, fun r HK hr fzK hatK owK => ?_⟩
        refine ⟨rs.map V.int, fzK _ _ kD gD, by rw [List.length_map, lr, sizeLine_eq]; omega, ?_, hatK.upd List.mem_cons_self nDa, owK.kp .upd, rs ++ [(r : Int)], by rw [upd_same, List.map_append]; rfl, by rw [List.length_append, lr]; rfl⟩
        exact (fzI.trans (fzK.more fun b hb => List.mem_cons_of_mem _ hb)).trans (fz_upd List.mem_cons_self)
      · obtain ⟨fzI, hatI, owI, rs, gD, lr⟩ := hP
        have fzGI : Fz [a] HG HI := fzI.drop hD2
        have np5 : pn5 ∉ [a] := fun y => by
          have h := hatF.some
          obtain ⟨o, e⟩ := h
          rw [← List.mem_singleton.mp y, hpn5] at e; cases e
        have g5I := fzGI _ _ np5 g5
        refine ⟨pn5, D2, _, _, rfl, rfl, g5I, gD, by rw [List.length_map, List.length_map, lr, sizeLine_eq]; show 5 + 7 ≤ _; decide, fun pN hpN => ?_⟩
        have sN := same_up (o := .lst (((fiveI xP.length z).map V.int) ++ rs.map V.int)) hpN
        have hatN := (hatI.out haS).same sN
        have owN := owI.tail.same sN
        have aN : At (Hd [a] (upd HI pN (.lst (((fiveI xP.length z).map V.int) ++ rs.map V.int)))) (eList eInt) (.ref pN) (fiveI xP.length z ++ rs) := at_new owI.tail hpN ((ats_ints _).app (ats_ints _))
        have fzEN : Fz [a] HE (upd HI pN (.lst (((fiveI xP.length z).map V.int) ++ rs.map V.int))) := (fzG.trans fzGI).trans (.of sN)
        have aPN := aPE.fz fzEN
        have aHN := aHE.fz fzEN
        have aKN := (aK : At (Hd [a] HE) ePl (.ref D) [hS, hW]).fz fzEN
        have astN := astE.fz fzEN
        have awiN := awiE.fz fzEN
        generalize fiveI xP.length z ++ rs = NS at aN
        generalize upd HI pN (.lst (((fiveI xP.length z).map V.int) ++ rs.map V.int)) = HN at sN hatN owN aN fzEN aPN aHN aKN astN awiN
        clear fzGI g5I np5 fzI hatI owI gD kP kD gPG fzG owG hatG g5 s5 gP nPa hxP hpP aPE aHE aK astE awiE
        obtain ⟨pN', xN, eN, hpN1, hxN⟩ := id aN.list
        cases eN
        have hnd : ∀ H', Fz [a] HN H' → ∃ xh v0 v1, H' vh = some (.lst xh) ∧ xh[0]? = some v0 ∧ xh[1]? = some v1 ∧ At (Hd [a] H') eSpots v0 hS ∧ At (Hd [a] H') eSpots v1 hW := fun H' fz => by
          obtain ⟨p', xh, e', hp', hx'⟩ := id (aHN.fz fz).list
          cases e'
          obtain ⟨v0, g0, b0⟩ := hx'.to (i := 0) (a := hS) rfl
          obtain ⟨v1, g1, b1⟩ := hx'.to (i := 1) (a := hW) rfl
          exact ⟨xh, v0, v1, (Hd_some hp').2, g0, g1, b0, b1⟩
        have pln : ∀ H', Fz [a] HN H' → ∃ xP', H' pP = some (.lst xP') ∧ Ats (Hd [a] H') ePl xP' (plansT st wi k) ∧ At (Hd [a] H') ePlans (.ref pP) (plansT st wi k) := fun H' fz => by
          obtain ⟨p', xh, e', hp', hx'⟩ := id (aPN.fz fz).list
          cases e'
          exact ⟨xh, (Hd_some hp').2, hx', aPN.fz fz⟩
        have psm : ∀ r ∈ plansT st wi k, r.length < 30 ∧ ∀ x ∈ r, x.length ≤ 5 := fun r hr => plan_small hr (few_lt tf.ok hk1) hk5
        have pfH := plansT_pf hS hW k
        rw [plH] at pfH
        have nSH := numS_of tkH
        have fewH := few_lt tkH hk1
        have aHN0 := aHN
        clear aHN aPN
        generalize hPL : plansT st wi k = PL at plH pln psm pfH PLup PLne PLpos PLlen lP nn
        refine ⟨_, rfl, pN, rfl, ⟨_, .of (Hd_some hpN1).2⟩, ?_⟩
        refine forL (A := eInt) (S := [a]) (l := NS) hpN1 hxN (fun i σ H' => (∃ j9 jA jB jC : Option V, σ = [some (.ref a0), some (.ref a), some (.ref pst), some (.ref pwi), some (.int (k : Nat)), some (.ref pP), some (.ref vh), some (.ref D), some (.ref pN), j9, jA, jB, jC, none, none]) ∧ Fz [a] HN H' ∧ HatAt K [a] H' a ∧ Own [a] H')
          ⟨⟨_, _, _, _, rfl⟩, .refl, hatN, owN⟩ (fun i σ H' h => h.2.1) (fun i num v σ H5 hi hP av => ?_) (fun σ H5 hP => ?_)
        · obtain ⟨⟨j9, jA, jB, jC, rfl⟩, fz5, hat5, ow5⟩ := hP
          obtain rfl := av.int
          obtain ⟨xh5, v0, v1, gh5, gv0, gv1, av0, av1⟩ := hnd H5 fz5
          obtain ⟨xP5, gP5, xxP5, aP5⟩ := pln H5 fz5
          refine ⟨_, rfl, vh, xh5, 0, v0, rfl, rfl, .of gh5, atI_nat gv0, _, rfl, vh, xh5, 1, v1, rfl, rfl, .of gh5, atI_nat gv1, _, rfl, _, rfl, [a], v0, v1, hS, hW, num, k, rfl, av0, av1, ow5, tkH, hk1, by omega, fun p H6 r h0 hr s6 hp => ?_, fun nr H6 s6 => ?_⟩
          · obtain ⟨n, rfl⟩ : ∃ n : Nat, num = ((n : Nat) : Int) := ⟨num.toNat, by omega⟩
            rw [plH] at hr
            have hr : PL[n]? = some r := hr
            have hn := (List.getElem?_eq_some_iff.mp hr).1
            have rmem := List.mem_of_getElem? hr
            obtain ⟨r30, r5⟩ := psm r rmem
            have fz6 : Fz [a] HN H6 := fz5.trans (.of s6)
            obtain ⟨xP6, gP6, xxP6, aP6⟩ := pln H6 fz6
            have lP6 := xxP6.len
            have e1 : (!decide (V.bl (decide ((V.ref p) = V.non)) = V.bl (!decide (((n : Nat) : Int) < ((xP6.length : Nat) : Int))))) = false := by
              rw [decide_eq_true (show ((n : Nat) : Int) < ((xP6.length : Nat) : Int) by omega)]
              rfl
            have e0 : decide ((0 : Int) ≤ ((n : Nat) : Int)) = true := decide_eq_true (by omega)
            refine ⟨_, rfl, rfl, _, rfl, _, _, rfl, rfl, _, rfl, ite2 (fun _ => ?_) fun e => absurd e0 e⟩
            refine ⟨_, rfl, pP, xP6, rfl, .inl (.of gP6), _, _, rfl, rfl, _, rfl, rfl, _, rfl, ite2 (fun e2 => nomatch (e1.symm.trans e2 : false = true)) fun _ => ?_⟩
            refine ⟨_, rfl, rfl, _, rfl, iteT ?_⟩
            have hat6 := hat5.same s6
            have ow6 := ow5.same s6
            obtain ⟨npS, dxp, upp, hpp, _⟩ := id hp
            obtain ⟨vr, hvr6, avr⟩ := xxP6.to hr
            -- the seasons
            refine ⟨_, rfl, p, dxp, _, rfl, hpp, rfl, [a], p, r, rfl, hp, ow6, by omega, fun u7 H7 s7 au7 => ?_⟩
            have gP7 := s7 _ _ gP6
            refine ⟨_, rfl, _, rfl, pP, xP6, n, vr, rfl, rfl, .of gP7, atI_nat hvr6, [a], u7, vr, ePl.e r, rfl, au7.1, (avr.up s7).1, ow6.same s7, sml_pl 4 (by omega) (fun x hx => by have := r5 x hx; omega), fun H8 s8 => ?_⟩
            have s68 := s7.trans s8
            have fz8 := fz6.trans (.of s68)
            have hat8 := hat6.same s68
            have ow8 := ow6.same s68
            have hp8 := hp.same s68
            refine ⟨_, rfl, iteF ?_⟩
            -- the number again
            obtain ⟨xh8, v08, v18, gh8, gv08, gv18, av08, av18⟩ := hnd H8 fz8
            refine ⟨_, rfl, vh, xh8, 0, v08, rfl, rfl, .of gh8, atI_nat gv08, _, rfl, vh, xh8, 1, v18, rfl, rfl, .of gh8, atI_nat gv18, _, rfl, _, rfl, [a], v08, v18, p, hS, hW, r, k, rfl, av08, av18, hp8, ow8, tkH, nSH, fewH, hk1, by omega, by omega, fun x hx => by have := r5 x hx; omega, by rw [plH]; exact pfH r, fun H9 n' s9 hn' => ?_, fun H9 s9 hno => absurd (by rw [plH]; exact rmem) hno⟩
            rw [plH] at hn'
            obtain rfl := up_get PLup hn' hr
            refine ⟨_, rfl, [a], _, _, .int ((n' : Nat) : Int), rfl, .int _, .int _, ow8.same s9, .inl trivial, fun H10 s10 => ?_⟩
            refine ⟨_, rfl, iteF ?_⟩
            have s8A := s9.trans s10
            have fzA := fz8.trans (.of s8A)
            have hatA := hat8.same s8A
            have owA := ow8.same s8A
            have aHA : At (Hd [a] H10) ePl (.ref vh) [hS, hW] := aHN0.fz fzA
            have aKA : At (Hd [a] H10) ePl (.ref D) [hS, hW] := aKN.fz fzA
            refine ⟨_, rfl, _, rfl, ne_at (A := ePl) aHA aKA hd_to ⟨_, rfl, ite2 (fun e2 => ?_) fun _ => ?_⟩⟩
            · rw [decide_eq_true rfl] at e2; cases e2
            -- a plan bent
            obtain ⟨xPA, gPA, xxPA, aPA⟩ := pln H10 fzA
            obtain ⟨vrA, hvrA, avrA⟩ := xxPA.to hr
            have awiA := awiN.fz fzA
            obtain ⟨pwi', xwA, ewA, hpwA, hxwA⟩ := id awiA.list
            cases ewA
            have lxw := hxwA.len
            refine ⟨_, rfl, _, rfl, _, rfl, pP, xPA, n', vrA, rfl, rfl, .of gPA, atI_nat hvrA, _, rfl, two_line, fun pt hpt => ?_⟩
            have sB := same_up (o := .tup [V.str "z", .str "u"]) hpt
            refine ⟨by show 1 ≤ sizeLine; rw [sizeLine_eq]; decide, fun pz hpz => ?_⟩
            have sC := same_up (o := .lst [V.ref pt]) hpz
            have owB := owA.same sB
            have atz : At (Hd [a] (upd H10 pt (.tup [V.str "z", .str "u"]))) eSpot (.ref pt) (([122], [117]) : Spot) := by
              have ez : ("z" : Str) = tx [122] := by decide +kernel
              have eu : ("u" : Str) = tx [117] := by decide +kernel
              rw [ez, eu]
              exact at_newS owA hpt ⟨(show 1 ≤ 1000 by decide), fun c hc => by rw [List.mem_singleton.mp hc]; decide⟩ ⟨(show 1 ≤ 1000 by decide), fun c hc => by rw [List.mem_singleton.mp hc]; decide⟩
            have sBC := sB.trans sC
            refine ⟨pwi, pz, xwA, _, rfl, rfl, sBC _ _ (Hd_some hpwA).2, upd_same, by rw [sizeLine_eq]; show xwA.length + 1 ≤ _; omega, fun pq hpq => ?_⟩
            have sD := same_up (o := .lst (xwA ++ [V.ref pt])) hpq
            have owC' := owB.same sC
            have apq := at_new owC' hpq ((hxwA.up sBC).app (Ats.one (atz.up sC)))
            have sAD := sBC.trans sD
            refine ⟨[a], a, vrA, .ref pq, r, wi ++ [([122], [117])], rfl, hatA.same sAD, owA.same sAD, avrA.up sAD, apq, by omega, fun x hx => by have := r5 x hx; omega, (fun y => nomatch (List.append_eq_nil_iff.mp y).2), by rw [List.length_append]; exact Nat.le_trans (Nat.add_le_add_right t54 1) (by decide), fun uo L HL lL lX aL fzL hatL owL => ?_⟩
            have fzL' : Fz [a] HN HL := (fzA.trans (.of sAD)).trans fzL
            clear apq atz sD sC sB
            dsimp only [gName]
            refine tseq_cut (fun N => ∀ (d : V) (H' : Hp), ((∃ m, d = .int ((m : Nat) : Int) ∧ PL[m]? = some L) ∨ (d = .non ∧ L ∉ PL)) → H' = HL → N [some (.ref a0), some (.ref a), some (.ref pst), some (.ref pwi), some (.int (k : Nat)), some (.ref pP), some (.ref vh), some (.ref D), some (.ref pN), some (.int ((n' : Nat) : Int)), some (.ref p), some uo, some d, none, none] H') ?_ fun N hN => ?_
            · intro d H' hd eH
              subst eH
              obtain ⟨xhL, v0L, v1L, ghL, gv0L, gv1L, av0L, av1L⟩ := hnd H' fzL'
              refine ⟨_, rfl, vh, xhL, 0, v0L, rfl, rfl, .of ghL, atI_nat gv0L, _, rfl, vh, xhL, 1, v1L, rfl, rfl, .of ghL, atI_nat gv1L, _, rfl, mk_plan owL aL lL (fun pp HM sM hpM => ?_)⟩
              have fzM := fzL'.trans (.of sM)
              have hatM := hatL.same sM
              have owM := owL.same sM
              refine ⟨_, rfl, [a], v0L, v1L, pp, hS, hW, L, k, rfl, av0L.up sM, av1L.up sM, hpM, owM, tkH, nSH, fewH, hk1, by omega, lL, lX, by rw [plH]; exact pfH L, fun HO2 n2 sO hn2 => ?_, fun HO2 sO hno => ?_⟩
              · rw [plH] at hn2
                rcases hd with ⟨m, rfl, hm⟩ | ⟨rfl, hno⟩
                · obtain rfl := up_get PLup hn2 hm
                  refine ⟨_, rfl, [a], _, _, .int ((n2 : Nat) : Int), rfl, .int _, .int _, owM.same sO, .inl trivial, fun HQ sQ => ?_⟩
                  have sOQ := sO.trans sQ
                  exact ⟨_, rfl, iteF ⟨⟨_, _, _, _, rfl⟩, fzM.trans (.of sOQ), hatM.same sOQ, owM.same sOQ⟩⟩
                · exact absurd (List.mem_of_getElem? hn2) hno
              · rw [plH] at hno
                rcases hd with ⟨m, rfl, hm⟩ | ⟨rfl, _⟩
                · exact absurd (List.mem_of_getElem? hm) hno
                · refine ⟨_, rfl, [a], _, _, .none, rfl, .non, .non, owM.same sO, .inl trivial, fun HQ sQ => ?_⟩
                  have sOQ := sO.trans sQ
                  exact ⟨_, rfl, iteF ⟨⟨_, _, _, _, rfl⟩, fzM.trans (.of sOQ), hatM.same sOQ, owM.same sOQ⟩⟩
            · obtain ⟨xPL, gPL, xxPL, aPL⟩ := pln HL fzL'
              refine ⟨_, rfl, _, rfl, in_at (A := ePl) aL aPL hd_to ⟨_, rfl, ite2 (fun e => ?_) fun e => ?_⟩⟩
              · have hm : L ∈ PL := memB_iff.mp e
                refine ⟨_, rfl, .inl ⟨rfl, xPL, .of gPL⟩, _, rfl, ?_⟩
                dsimp only [tNil]
                refine index_at (A := ePl) aL aPL hd_to hm ?_
                exact hN _ HL (.inl ⟨_, rfl, idx_get hm⟩) rfl
              · exact hN _ HL (.inr ⟨rfl, fun y => e (memB_iff.mpr y)⟩) rfl
          · have fz6 : Fz [a] HN H6 := fz5.trans (.of s6)
            obtain ⟨xP6, gP6, xxP6, aP6⟩ := pln H6 fz6
            have lP6 := xxP6.len
            have nx : ∀ (c : Bool), c = false → (!decide (V.bl (decide ((V.non : V) = V.non)) = V.bl (!c))) = false := fun c hc => by
              rw [hc]
              rfl
            refine ⟨_, rfl, rfl, _, rfl, _, _, rfl, rfl, _, rfl, ite2 (fun e => ?_) fun e => ?_⟩
            · have e := of_decide_eq_true e
              have e1 := nx (decide (num < ((xP6.length : Nat) : Int))) (decide_eq_false fun y => nr ⟨e, by rw [plH]; omega⟩)
              refine ⟨_, rfl, pP, xP6, rfl, .inl (.of gP6), _, _, rfl, rfl, _, rfl, rfl, _, rfl, ite2 (fun e2 => nomatch (e1.symm.trans e2 : false = true)) fun _ => ?_⟩
              exact ⟨_, rfl, rfl, _, rfl, iteF ⟨⟨_, _, _, _, rfl⟩, fz6, hat5.same s6, ow5.same s6⟩⟩
            · have e1 := nx false rfl
              refine ⟨_, rfl, rfl, _, rfl, ite2 (fun e2 => nomatch (e1.symm.trans e2 : false = true)) fun _ => ?_⟩
              exact ⟨_, rfl, rfl, _, rfl, iteF ⟨⟨_, _, _, _, rfl⟩, fz6, hat5.same s6, ow5.same s6⟩⟩
        · obtain ⟨⟨j9, jA, jB, jC, rfl⟩, fz5, hat5, ow5⟩ := hP
          have P2ne := plansT_ne tf.ok (k := 2) (by decide)
          have P2pos : 0 < (plansT st wi 2).length := List.length_pos_iff.mpr P2ne
          have P2up := plansT_up st wi 2
          have nS2 := numS_of tf.ok
          have few2 := few_lt tf.ok (k := 2) (by decide)
          have small2 : ∀ r ∈ plansT st wi 2, r.length < 30 ∧ ∀ x ∈ r, x.length ≤ 5 := fun r hr => plan_small hr few2 (by decide)
          refine ⟨_, rfl, _, rfl, _, rfl, _, rfl, [a], _, _, st, wi, 0, 2, rfl, astN.fz fz5, awiN.fz fz5, ow5, tf.ok, nS2, few2, by decide, by decide, fun p H6 r h0 hr s6 hp => ?_, fun hno => absurd ⟨by decide, by omega⟩ hno⟩
          have hr : (plansT st wi 2)[0]? = some r := hr
          obtain ⟨r30, r5⟩ := small2 r (List.mem_of_getElem? hr)
          have fz6 := fz5.trans (.of s6)
          have ow6 := ow5.same s6
          refine ⟨[a], _, _, p, st, wi, r, 2, rfl, astN.fz fz6, awiN.fz fz6, hp, ow6, tf.ok, nS2, few2, by decide, by decide, by omega, fun x hx => by have := r5 x hx; omega, plansT_pf st wi 2 r, fun H7 n s7 hn => ?_, fun H7 s7 hno => absurd (List.mem_of_getElem? hr) hno⟩
          obtain rfl := up_get P2up hr hn
          refine ⟨rfl, _, rfl, iteF ?_⟩
          have fz7 := fz6.trans (.of s7)
          have ow7 := ow6.same s7
          refine ⟨_, rfl, _, rfl, _, rfl, _, rfl, [a], _, _, st, wi, 0, 2, rfl, astN.fz fz7, awiN.fz fz7, ow7, tf.ok, nS2, few2, by decide, by decide, fun p2 H8 r2 h02 hr2 s8 hp2 => ?_, fun hno => absurd ⟨by decide, by omega⟩ hno⟩
          have hr2 : (plansT st wi 2)[0]? = some r2 := hr2
          obtain ⟨r230, r25⟩ := small2 r2 (List.mem_of_getElem? hr2)
          have fz8 := fz7.trans (.of s8)
          have ow8 := ow7.same s8
          refine ⟨[a], _, _, p2, st, wi, r2, 2, rfl, astN.fz fz8, awiN.fz fz8, hp2, ow8, tf.ok, nS2, few2, by decide, by decide, by omega, fun x hx => by have := r25 x hx; omega, plansT_pf st wi 2 r2, fun H9 n s9 hn => ?_, fun H9 s9 hno => absurd (List.mem_of_getElem? hr2) hno⟩
          obtain rfl := up_get P2up hr2 hn
          exact ⟨rfl, q _⟩
end
end Pw
end
section
set_option linter.all false
set_option maxRecDepth 100000
set_option maxHeartbeats 0
/-! The head 3: what the facts give. -/
namespace Pw
open PySem PySem.Spec PyProof.Rows L2
theorem txs_of {K : PySem.W.Frag} {h : Heap} {mg : Str → Option Value} (X : K.In h) (G : h.Ns mainGlobals mg) (D : He.SaysD fa fn K) : Nonempty (Tx K mg) := by
  obtain ⟨fd_WallError_init, F_WallError_init⟩ := D.def_ 0 (d := d_WallError_init) rfl
  obtain ⟨fd_BadNumber_init, F_BadNumber_init⟩ := D.def_ 1 (d := d_BadNumber_init) rfl
  obtain ⟨fd_is_name, F_is_name⟩ := D.def_ 2 (d := d_is_name) rfl
  obtain ⟨fd_is_word, F_is_word⟩ := D.def_ 3 (d := d_is_word) rfl
  obtain ⟨fd_beneath, F_beneath⟩ := D.def_ 4 (d := d_beneath) rfl
  obtain ⟨fd_closed, F_closed⟩ := D.def_ 5 (d := d_closed) rfl
  obtain ⟨fd_need_spots, F_need_spots⟩ := D.def_ 6 (d := d_need_spots) rfl
  obtain ⟨fd_trees_of, F_trees_of⟩ := D.def_ 7 (d := d_trees_of) rfl
  obtain ⟨fd_lacking_of, F_lacking_of⟩ := D.def_ 8 (d := d_lacking_of) rfl
  obtain ⟨fd_in_way_of, F_in_way_of⟩ := D.def_ 9 (d := d_in_way_of) rfl
  obtain ⟨fd_over_standing, F_over_standing⟩ := D.def_ 10 (d := d_over_standing) rfl
  obtain ⟨fd_row_of, F_row_of⟩ := D.def_ 11 (d := d_row_of) rfl
  obtain ⟨fd_need_sap, F_need_sap⟩ := D.def_ 12 (d := d_need_sap) rfl
  obtain ⟨fd_seasons_for, F_seasons_for⟩ := D.def_ 13 (d := d_seasons_for) rfl
  obtain ⟨fd_bound_at, F_bound_at⟩ := D.def_ 14 (d := d_bound_at) rfl
  obtain ⟨fd_bounds, F_bounds⟩ := D.def_ 15 (d := d_bounds) rfl
  obtain ⟨fd_Plan_init, F_Plan_init⟩ := D.def_ 16 (d := d_Plan_init) rfl
  obtain ⟨fd_Plan_len, F_Plan_len⟩ := D.def_ 17 (d := d_Plan_len) rfl
  obtain ⟨fd_Plan_seasons, F_Plan_seasons⟩ := D.def_ 18 (d := d_Plan_seasons) rfl
  obtain ⟨fd_need_free, F_need_free⟩ := D.def_ 19 (d := d_need_free) rfl
  obtain ⟨fd_season_good, F_season_good⟩ := D.def_ 20 (d := d_season_good) rfl
  obtain ⟨fd_fault_of, F_fault_of⟩ := D.def_ 21 (d := d_fault_of) rfl
  obtain ⟨fd_Choices_init, F_Choices_init⟩ := D.def_ 22 (d := d_Choices_init) rfl
  obtain ⟨fd_Choices_place_of, F_Choices_place_of⟩ := D.def_ 23 (d := d_Choices_place_of) rfl
  obtain ⟨fd_Choices_ready, F_Choices_ready⟩ := D.def_ 24 (d := d_Choices_ready) rfl
  obtain ⟨fd_Choices_lots, F_Choices_lots⟩ := D.def_ 25 (d := d_Choices_lots) rfl
  obtain ⟨fd_Choices_behind, F_Choices_behind⟩ := D.def_ 26 (d := d_Choices_behind) rfl
  obtain ⟨fd_Choices_ways, F_Choices_ways⟩ := D.def_ 27 (d := d_Choices_ways) rfl
  obtain ⟨fd_choices_for, F_choices_for⟩ := D.def_ 28 (d := d_choices_for) rfl
  obtain ⟨fd_count_in, F_count_in⟩ := D.def_ 29 (d := d_count_in) rfl
  obtain ⟨fd_numbered, F_numbered⟩ := D.def_ 30 (d := d_numbered) rfl
  obtain ⟨fd_rank_of, F_rank_of⟩ := D.def_ 31 (d := d_rank_of) rfl
  obtain ⟨fd__law_hat, F__law_hat⟩ := D.def_ 32 (d := d__law_hat) rfl
  obtain ⟨fd__law_take, F__law_take⟩ := D.def_ 33 (d := d__law_take) rfl
  obtain ⟨fd__law_same, F__law_same⟩ := D.def_ 34 (d := d__law_same) rfl
  obtain ⟨fd__law_odd, F__law_odd⟩ := D.def_ 35 (d := d__law_odd) rfl
  obtain ⟨fd__law_mixed, F__law_mixed⟩ := D.def_ 36 (d := d__law_mixed) rfl
  obtain ⟨fd__law_names, F__law_names⟩ := D.def_ 37 (d := d__law_names) rfl
  obtain ⟨fd__law_ends, F__law_ends⟩ := D.def_ 38 (d := d__law_ends) rfl
  obtain ⟨fd__law_words, F__law_words⟩ := D.def_ 39 (d := d__law_words) rfl
  obtain ⟨fd__law_grove, F__law_grove⟩ := D.def_ 40 (d := d__law_grove) rfl
  obtain ⟨fd__law_more, F__law_more⟩ := D.def_ 41 (d := d__law_more) rfl
  obtain ⟨fd__law_lacking, F__law_lacking⟩ := D.def_ 42 (d := d__law_lacking) rfl
  obtain ⟨fd__law_over, F__law_over⟩ := D.def_ 43 (d := d__law_over) rfl
  obtain ⟨fd__law_row, F__law_row⟩ := D.def_ 44 (d := d__law_row) rfl
  obtain ⟨fd__law_bound, F__law_bound⟩ := D.def_ 45 (d := d__law_bound) rfl
  obtain ⟨fd__law_fewest, F__law_fewest⟩ := D.def_ 46 (d := d__law_fewest) rfl
  obtain ⟨fd__law_task, F__law_task⟩ := D.def_ 47 (d := d__law_task) rfl
  obtain ⟨fd__law_free_task, F__law_free_task⟩ := D.def_ 48 (d := d__law_free_task) rfl
  obtain ⟨fd__law_lots, F__law_lots⟩ := D.def_ 49 (d := d__law_lots) rfl
  obtain ⟨fd__law_ready, F__law_ready⟩ := D.def_ 50 (d := d__law_ready) rfl
  obtain ⟨fd__law_all_plans, F__law_all_plans⟩ := D.def_ 51 (d := d__law_all_plans) rfl
  obtain ⟨fd__law_all_quickest, F__law_all_quickest⟩ := D.def_ 52 (d := d__law_all_quickest) rfl
  obtain ⟨fd__law_bent_plan, F__law_bent_plan⟩ := D.def_ 53 (d := d__law_bent_plan) rfl
  obtain ⟨fd__law_told, F__law_told⟩ := D.def_ 54 (d := d__law_told) rfl
  obtain ⟨fd_law, F_law⟩ := D.def_ 55 (d := d_law) rfl
  obtain ⟨tk_LONGEST_NAME, g_LONGEST_NAME⟩ := He.int_ok X G (D.fact 86 (f := .int "LONGEST_NAME" 8) rfl)
  obtain ⟨tk_TALLEST, g_TALLEST⟩ := He.int_ok X G (D.fact 87 (f := .int "TALLEST" 16) rfl)
  obtain ⟨tk_MOST_SAP, g_MOST_SAP⟩ := He.int_ok X G (D.fact 88 (f := .int "MOST_SAP" 300) rfl)
  obtain ⟨tk_MOST_LACKING, g_MOST_LACKING⟩ := He.int_ok X G (D.fact 89 (f := .int "MOST_LACKING" 10) rfl)
  obtain ⟨tk_LETTERS, g_LETTERS⟩ := He.str_ok X G (D.fact 90 (f := .str "LETTERS" "abcdefghijklmnopqrstuvwxyz") rfl)
  obtain ⟨tk_WAYS, g_WAYS⟩ := He.str_ok X G (D.fact 91 (f := .str "WAYS" "lur") rfl)
  exact ⟨{
    g_is_name := He.glo_ok X G (D.fact 0 (f := .glo "is_name") rfl),
    g_is_word := He.glo_ok X G (D.fact 1 (f := .glo "is_word") rfl),
    g_beneath := He.glo_ok X G (D.fact 2 (f := .glo "beneath") rfl),
    g_closed := He.glo_ok X G (D.fact 3 (f := .glo "closed") rfl),
    g_need_spots := He.glo_ok X G (D.fact 4 (f := .glo "need_spots") rfl),
    g_trees_of := He.glo_ok X G (D.fact 5 (f := .glo "trees_of") rfl),
    g_lacking_of := He.glo_ok X G (D.fact 6 (f := .glo "lacking_of") rfl),
    g_in_way_of := He.glo_ok X G (D.fact 7 (f := .glo "in_way_of") rfl),
    g_over_standing := He.glo_ok X G (D.fact 8 (f := .glo "over_standing") rfl),
    g_row_of := He.glo_ok X G (D.fact 9 (f := .glo "row_of") rfl),
    g_need_sap := He.glo_ok X G (D.fact 10 (f := .glo "need_sap") rfl),
    g_seasons_for := He.glo_ok X G (D.fact 11 (f := .glo "seasons_for") rfl),
    g_bound_at := He.glo_ok X G (D.fact 12 (f := .glo "bound_at") rfl),
    g_bounds := He.glo_ok X G (D.fact 13 (f := .glo "bounds") rfl),
    m_Plan_len := He.meth_ok (D.fact 14 (f := .meth "Plan" "__len__") rfl),
    m_Plan_seasons := He.meth_ok (D.fact 15 (f := .meth "Plan" "seasons") rfl),
    g_need_free := He.glo_ok X G (D.fact 16 (f := .glo "need_free") rfl),
    g_season_good := He.glo_ok X G (D.fact 17 (f := .glo "season_good") rfl),
    g_fault_of := He.glo_ok X G (D.fact 18 (f := .glo "fault_of") rfl),
    m_Choices_place_of := He.meth_ok (D.fact 19 (f := .meth "Choices" "place_of") rfl),
    m_Choices_ready := He.meth_ok (D.fact 20 (f := .meth "Choices" "ready") rfl),
    m_Choices_lots := He.meth_ok (D.fact 21 (f := .meth "Choices" "lots") rfl),
    m_Choices_behind := He.meth_ok (D.fact 22 (f := .meth "Choices" "behind") rfl),
    m_Choices_ways := He.meth_ok (D.fact 23 (f := .meth "Choices" "ways") rfl),
    g_choices_for := He.glo_ok X G (D.fact 24 (f := .glo "choices_for") rfl),
    g_count_in := He.glo_ok X G (D.fact 25 (f := .glo "count_in") rfl),
    g_numbered := He.glo_ok X G (D.fact 26 (f := .glo "numbered") rfl),
    g_rank_of := He.glo_ok X G (D.fact 27 (f := .glo "rank_of") rfl),
    g__law_hat := He.glo_ok X G (D.fact 28 (f := .glo "_law_hat") rfl),
    g__law_take := He.glo_ok X G (D.fact 29 (f := .glo "_law_take") rfl),
    g__law_same := He.glo_ok X G (D.fact 30 (f := .glo "_law_same") rfl),
    g__law_odd := He.glo_ok X G (D.fact 31 (f := .glo "_law_odd") rfl),
    g__law_mixed := He.glo_ok X G (D.fact 32 (f := .glo "_law_mixed") rfl),
    g__law_names := He.glo_ok X G (D.fact 33 (f := .glo "_law_names") rfl),
    g__law_ends := He.glo_ok X G (D.fact 34 (f := .glo "_law_ends") rfl),
    g__law_words := He.glo_ok X G (D.fact 35 (f := .glo "_law_words") rfl),
    g__law_grove := He.glo_ok X G (D.fact 36 (f := .glo "_law_grove") rfl),
    g__law_more := He.glo_ok X G (D.fact 37 (f := .glo "_law_more") rfl),
    g__law_lacking := He.glo_ok X G (D.fact 38 (f := .glo "_law_lacking") rfl),
    g__law_over := He.glo_ok X G (D.fact 39 (f := .glo "_law_over") rfl),
    g__law_row := He.glo_ok X G (D.fact 40 (f := .glo "_law_row") rfl),
    g__law_bound := He.glo_ok X G (D.fact 41 (f := .glo "_law_bound") rfl),
    g__law_fewest := He.glo_ok X G (D.fact 42 (f := .glo "_law_fewest") rfl),
    g__law_task := He.glo_ok X G (D.fact 43 (f := .glo "_law_task") rfl),
    g__law_free_task := He.glo_ok X G (D.fact 44 (f := .glo "_law_free_task") rfl),
    g__law_lots := He.glo_ok X G (D.fact 45 (f := .glo "_law_lots") rfl),
    g__law_ready := He.glo_ok X G (D.fact 46 (f := .glo "_law_ready") rfl),
    g__law_all_plans := He.glo_ok X G (D.fact 47 (f := .glo "_law_all_plans") rfl),
    g__law_all_quickest := He.glo_ok X G (D.fact 48 (f := .glo "_law_all_quickest") rfl),
    g__law_bent_plan := He.glo_ok X G (D.fact 49 (f := .glo "_law_bent_plan") rfl),
    g__law_told := He.glo_ok X G (D.fact 50 (f := .glo "_law_told") rfl),
    g_law := He.glo_ok X G (D.fact 51 (f := .glo "law") rfl),
    g_Plan := He.glo_ok X G (D.fact 52 (f := .glo "Plan") rfl),
    c_Plan := He.cls_ok (D.fact 53 (f := .cls "Plan") rfl),
    k_Plan := He.mkr_ok (D.fact 54 (f := .mkr "Plan") rfl),
    g_Choices := He.glo_ok X G (D.fact 55 (f := .glo "Choices") rfl),
    c_Choices := He.cls_ok (D.fact 56 (f := .cls "Choices") rfl),
    k_Choices := He.mkr_ok (D.fact 57 (f := .mkr "Choices") rfl),
    n_Choices_missing := He.noat_ok (D.fact 58 (f := .noat "Choices" "missing") rfl),
    n_Choices_most := He.noat_ok (D.fact 59 (f := .noat "Choices" "most") rfl),
    n_Choices_below := He.noat_ok (D.fact 60 (f := .noat "Choices" "below") rfl),
    n_Choices_known := He.noat_ok (D.fact 61 (f := .noat "Choices" "known") rfl),
    n_Plan_steps := He.noat_ok (D.fact 62 (f := .noat "Plan" "steps") rfl),
    f_len := He.free_ok X G (D.fact 63 (f := .free "len") rfl),
    f_all := He.free_ok X G (D.fact 64 (f := .free "all") rfl),
    f_dict := He.free_ok X G (D.fact 65 (f := .free "dict") rfl),
    f_sorted := He.free_ok X G (D.fact 66 (f := .free "sorted") rfl),
    f_set := He.free_ok X G (D.fact 67 (f := .free "set") rfl),
    f_enumerate := He.free_ok X G (D.fact 68 (f := .free "enumerate") rfl),
    f_max := He.free_ok X G (D.fact 69 (f := .free "max") rfl),
    f_range := He.free_ok X G (D.fact 70 (f := .free "range") rfl),
    f_list := He.free_ok X G (D.fact 71 (f := .free "list") rfl),
    f_sum := He.free_ok X G (D.fact 72 (f := .free "sum") rfl),
    f_tuple := He.free_ok X G (D.fact 73 (f := .free "tuple") rfl),
    f_int := He.free_ok X G (D.fact 74 (f := .free "int") rfl),
    f_isinstance := He.free_ok X G (D.fact 75 (f := .free "isinstance") rfl),
    f_zip := He.free_ok X G (D.fact 76 (f := .free "zip") rfl),
    f_KeyError := He.free_ok X G (D.fact 77 (f := .free "KeyError") rfl),
    f_ValueError := He.free_ok X G (D.fact 78 (f := .free "ValueError") rfl),
    f_str := He.free_ok X G (D.fact 79 (f := .free "str") rfl),
    f_bool := He.free_ok X G (D.fact 80 (f := .free "bool") rfl),
    g_BadNumber := He.glo_ok X G (D.fact 81 (f := .glo "BadNumber") rfl),
    kp_BadNumber := He.keep_ok (D.fact 82 (f := .keep "BadNumber") rfl),
    g_WallError := He.glo_ok X G (D.fact 83 (f := .glo "WallError") rfl),
    kp_WallError := He.keep_ok (D.fact 84 (f := .keep "WallError") rfl),
    e_BadNumber := He.exm_ok (D.fact 85 (f := .exm "BadNumber" "BadNumber" true) rfl),
    tk_LONGEST_NAME := tk_LONGEST_NAME,
    g_LONGEST_NAME := g_LONGEST_NAME,
    tk_TALLEST := tk_TALLEST,
    g_TALLEST := g_TALLEST,
    tk_MOST_SAP := tk_MOST_SAP,
    g_MOST_SAP := g_MOST_SAP,
    tk_MOST_LACKING := tk_MOST_LACKING,
    g_MOST_LACKING := g_MOST_LACKING,
    tk_LETTERS := tk_LETTERS,
    g_LETTERS := g_LETTERS,
    tk_WAYS := tk_WAYS,
    g_WAYS := g_WAYS,
    fd_WallError_init := fd_WallError_init,
    F_WallError_init := F_WallError_init,
    fd_BadNumber_init := fd_BadNumber_init,
    F_BadNumber_init := F_BadNumber_init,
    fd_is_name := fd_is_name,
    F_is_name := F_is_name,
    fd_is_word := fd_is_word,
    F_is_word := F_is_word,
    fd_beneath := fd_beneath,
    F_beneath := F_beneath,
    fd_closed := fd_closed,
    F_closed := F_closed,
    fd_need_spots := fd_need_spots,
    F_need_spots := F_need_spots,
    fd_trees_of := fd_trees_of,
    F_trees_of := F_trees_of,
    fd_lacking_of := fd_lacking_of,
    F_lacking_of := F_lacking_of,
    fd_in_way_of := fd_in_way_of,
    F_in_way_of := F_in_way_of,
    fd_over_standing := fd_over_standing,
    F_over_standing := F_over_standing,
    fd_row_of := fd_row_of,
    F_row_of := F_row_of,
    fd_need_sap := fd_need_sap,
    F_need_sap := F_need_sap,
    fd_seasons_for := fd_seasons_for,
    F_seasons_for := F_seasons_for,
    fd_bound_at := fd_bound_at,
    F_bound_at := F_bound_at,
    fd_bounds := fd_bounds,
    F_bounds := F_bounds,
    fd_Plan_init := fd_Plan_init,
    F_Plan_init := F_Plan_init,
    fd_Plan_len := fd_Plan_len,
    F_Plan_len := F_Plan_len,
    fd_Plan_seasons := fd_Plan_seasons,
    F_Plan_seasons := F_Plan_seasons,
    fd_need_free := fd_need_free,
    F_need_free := F_need_free,
    fd_season_good := fd_season_good,
    F_season_good := F_season_good,
    fd_fault_of := fd_fault_of,
    F_fault_of := F_fault_of,
    fd_Choices_init := fd_Choices_init,
    F_Choices_init := F_Choices_init,
    fd_Choices_place_of := fd_Choices_place_of,
    F_Choices_place_of := F_Choices_place_of,
    fd_Choices_ready := fd_Choices_ready,
    F_Choices_ready := F_Choices_ready,
    fd_Choices_lots := fd_Choices_lots,
    F_Choices_lots := F_Choices_lots,
    fd_Choices_behind := fd_Choices_behind,
    F_Choices_behind := F_Choices_behind,
    fd_Choices_ways := fd_Choices_ways,
    F_Choices_ways := F_Choices_ways,
    fd_choices_for := fd_choices_for,
    F_choices_for := F_choices_for,
    fd_count_in := fd_count_in,
    F_count_in := F_count_in,
    fd_numbered := fd_numbered,
    F_numbered := F_numbered,
    fd_rank_of := fd_rank_of,
    F_rank_of := F_rank_of,
    fd__law_hat := fd__law_hat,
    F__law_hat := F__law_hat,
    fd__law_take := fd__law_take,
    F__law_take := F__law_take,
    fd__law_same := fd__law_same,
    F__law_same := F__law_same,
    fd__law_odd := fd__law_odd,
    F__law_odd := F__law_odd,
    fd__law_mixed := fd__law_mixed,
    F__law_mixed := F__law_mixed,
    fd__law_names := fd__law_names,
    F__law_names := F__law_names,
    fd__law_ends := fd__law_ends,
    F__law_ends := F__law_ends,
    fd__law_words := fd__law_words,
    F__law_words := F__law_words,
    fd__law_grove := fd__law_grove,
    F__law_grove := F__law_grove,
    fd__law_more := fd__law_more,
    F__law_more := F__law_more,
    fd__law_lacking := fd__law_lacking,
    F__law_lacking := F__law_lacking,
    fd__law_over := fd__law_over,
    F__law_over := F__law_over,
    fd__law_row := fd__law_row,
    F__law_row := F__law_row,
    fd__law_bound := fd__law_bound,
    F__law_bound := F__law_bound,
    fd__law_fewest := fd__law_fewest,
    F__law_fewest := F__law_fewest,
    fd__law_task := fd__law_task,
    F__law_task := F__law_task,
    fd__law_free_task := fd__law_free_task,
    F__law_free_task := F__law_free_task,
    fd__law_lots := fd__law_lots,
    F__law_lots := F__law_lots,
    fd__law_ready := fd__law_ready,
    F__law_ready := F__law_ready,
    fd__law_all_plans := fd__law_all_plans,
    F__law_all_plans := F__law_all_plans,
    fd__law_all_quickest := fd__law_all_quickest,
    F__law_all_quickest := F__law_all_quickest,
    fd__law_bent_plan := fd__law_bent_plan,
    F__law_bent_plan := F__law_bent_plan,
    fd__law_told := fd__law_told,
    F__law_told := F__law_told,
    fd_law := fd_law,
    F_law := F_law }⟩

theorem valB_ok {r : Option PySem.W.CFound} {v : Value} (h : valB r v = true) : r = some (.val v) := by
  unfold valB at h
  split at h
  · rw [of_decide_eq_true h]
  · cases h
theorem oex_of {K : Fg} {C : Addr} (h : oexB K C = true) : ∃ nm q N bs bm sn sub ab col dd k0 k1 k2 k3 k5, K.lookup C = some (excClassObj nm q C N bs bm true sn sub ab col dd k0 k1 k2 k3 k5 "ValueError.__new__") ∧ PySem.HandSPX.refsVE bm = true := by
  unfold oexB at h
  split at h
  · rename_i t dd cd sl ho
    split at h
    · rename_i D bm k0 k1 k2 k3 n k5 hm hs
      obtain ⟨h1, h⟩ := He.ba h
      obtain ⟨h2, h⟩ := He.ba h
      obtain ⟨h3, h⟩ := He.ba h
      obtain ⟨h4, h⟩ := He.ba h
      obtain ⟨h5, h6⟩ := He.ba h
      obtain rfl : t = "type" := of_decide_eq_true h1
      obtain rfl : D = C := of_decide_eq_true h2
      obtain rfl : n = "ValueError.__new__" := of_decide_eq_true h3
      obtain ⟨nm, bs, mro, ns, qn, hd, sn, sub, ab, col, del⟩ := cd
      dsimp only at hm h4 h5
      subst hm
      obtain rfl : hd = true := h5
      obtain rfl : del = false := by
        cases del with
        | false => rfl
        | true => cases h4
      have hsl : sl = #[k0, k1, k2, k3, some (.builtin "ValueError.__new__"), k5] := by
        obtain ⟨l⟩ := sl
        simp only at hs
        rw [hs]
      subst hsl
      exact ⟨nm, qn, ns, bs, bm, sn, sub, ab, col, dd, k0, k1, k2, k3, k5, ho, h6⟩
    · cases h
  · cases h
theorem txe_of {K : Fg} (h : exB K = true) : TxE K := by
  obtain ⟨h1, h⟩ := He.ba h
  obtain ⟨h2, h⟩ := He.ba h
  obtain ⟨h3, h⟩ := He.ba h
  obtain ⟨h4, h⟩ := He.ba h
  obtain ⟨h5, h⟩ := He.ba h
  obtain ⟨h6, h⟩ := He.ba h
  obtain ⟨h7, h⟩ := He.ba h
  obtain ⟨h8, h⟩ := He.ba h
  obtain ⟨h9, h⟩ := He.ba h
  obtain ⟨hA, hB⟩ := He.ba h
  refine ⟨⟨oex_of h1, He.eqO_ok h2, of_decide_eq_true h3, of_decide_eq_true h4, h5⟩, He.eqO_ok h6, He.eqO_ok h7, of_decide_eq_true h8, ⟨h9, ?_⟩, valB_ok hA, valB_ok hB⟩
  have h := h9
  unfold PySem.W.readsIn at h
  obtain ⟨h, _⟩ := He.ba h
  obtain ⟨h, _⟩ := He.ba h
  obtain ⟨h, k3⟩ := He.ba h
  obtain ⟨_, k2⟩ := He.ba h
  unfold PySem.W.specialIn
  rw [beq_iff_eq.mp k2, Option.bind_some]
  exact beq_iff_eq.mp k3
end Pw
end
section
set_option linter.all false
set_option maxRecDepth 100000
set_option maxHeartbeats 0
/-! The head 3: the end. -/
namespace Pw
open PySem PySem.Spec PyProof.Rows L2
theorem facts {P : Program} {w : World} {K : PySem.W.Frag} {h : Heap} {mg : Str → Option Value} {f : Addr} (X : K.In h) (G : h.Ns mainGlobals mg) (hfa : mg ("law" : Str) = some (.ref f)) (c : SaysP K) :
    ∃ fd : FuncData, (∀ (s : Shared) (v : Value), BindsTo s fd ⟨[v], []⟩ [("_law_script", v)]) ∧ ∀ base : Heap, K.In base → base.Ns mainGlobals mg → FnOk P w K mg base CX0 37 f fd ["_law_script"] (spLaw (K := K)) := by
  obtain ⟨T⟩ := txs_of X G c.d
  have Z := txe_of c.x
  have e := hfa.symm.trans T.g_law
  cases e
  have b := FunD.bindsA (ps := ["_law_script"]) T.F_law fun _ _ _ _ _ _ us hl => match us, hl with | [_], _ => rfl
  exact ⟨T.fd_law, fun s v => b s [v] rfl, fun base _ _ => ok_law T Z⟩
end Pw
open PySem PySem.W PySem.Calls PyProof.Rows
theorem PySem.Challenge.cw_pleachwall_k26_whole_plans_by_their_numb_holds : PySem.Challenge.rw_pleachwall_k26_whole_plans_by_their_numb.Holds := by
  w_on; o_law
  refine HandSHeadRun.head_any (r := OpenLaw.row PySem.Challenge.rw_pleachwall_k26_whole_plans_by_their_numb) (q := view (OpenLaw.row PySem.Challenge.rw_pleachwall_k26_whole_plans_by_their_numb).prog [68]) (H := Pw.hk) (ob := Pw.ob) (M := 20000) (loose := Pw.loose) (d := HandSHeadRun.topDef (OpenLaw.row PySem.Challenge.rw_pleachwall_k26_whole_plans_by_their_numb).prog 68) (kwd := []) Pw.ob_eq
    (by kernel_rfl) (fun s => by kernel_rfl) Pw.run (by kernel_rfl) (by kernel_rfl) (by kernel_rfl) (by rfl) (by first | assumption | decide +kernel) (by decide +kernel) ⟨rfl, rfl, rfl, rfl, rfl, by decide +kernel⟩ ?hw ?hc
  case hw => w_witness2
  case hc =>
    refine L2.walk_ofE (l := PySem.Challenge.rw_pleachwall_k26_whole_plans_by_their_numb) (n := 63) (k := 37) (x := "_law_script") (CX := L2.CX0) rfl (by decide) (by kernel_rfl) ⟨rfl, by decide, by decide⟩ ?F (fun _ _ _ _ z => z)
    intro w mg fa h Y G hmg0
    obtain ⟨K, KX, c⟩ := Y
    have hmg : mg ("law" : PySem.Str) = some (.ref fa) := by
      have e : (HandSHeadRun.topDef (OpenLaw.row PySem.Challenge.rw_pleachwall_k26_whole_plans_by_their_numb).prog 68).name = ("law" : PySem.Str) := by kernel_rfl
      rw [← e]
      exact hmg0
    obtain ⟨fd, hb, hF⟩ := Pw.facts (P := (PySem.Challenge.rw_pleachwall_k26_whole_plans_by_their_numb).prog) (w := w) KX G hmg c
    exact ⟨K, fd, Pw.spLaw (K := K), KX, hb, fun H a ns hl _ hS => ⟨a, ns, rfl, hS, hl, fun _ => rfl⟩, hF⟩
end
