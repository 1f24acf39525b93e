import PyProof.Rows.All
import Wide.All
import OpenK.AllK
import Wide.FinOn
import HandS.ForMost
import HandS.IsInst
import HandS.Style
import HandS.TupAny
import HandS.Wide
import HandS.Zip
import HandS.SortKw
import KE.SortKeyHeap
import PyProof.ReprReads
import HandS.FStrTup
import PyProof.ReprRoads
import KE.KDictZip
import KE.KStar
import PySem.Challenge.RW_halvesmeet_k01_whole_order_of_plain_valu
import HandS.Ends
set_option Elab.async false
set_option linter.all false
set_option autoImplicit false
set_option maxRecDepth 100000
set_option maxHeartbeats 4000000
namespace K1
open PySem

/-! ### plain values and their order -/
inductive PV where
  | non
  | int (i : Int)
  | str (s : Str)
  | tup (xs : List PV)

def kd : PV → Nat
  | .non => 0
  | .int _ => 1
  | .str _ => 2
  | .tup _ => 3
def cmpI (i j : Int) : Ordering := if i = j then .eq else if i < j then .lt else .gt
def cmpS (x y : Str) : Ordering := if x = y then .eq else if x.cps.toList < y.cps.toList then .lt else .gt

mutual
def cmp : PV → PV → Ordering
  | .non, .non => .eq
  | .non, .int _ => .lt
  | .non, .str _ => .lt
  | .non, .tup _ => .lt
  | .int _, .non => .gt
  | .int i, .int j => cmpI i j
  | .int _, .str _ => .lt
  | .int _, .tup _ => .lt
  | .str _, .non => .gt
  | .str _, .int _ => .gt
  | .str x, .str y => cmpS x y
  | .str _, .tup _ => .lt
  | .tup _, .non => .gt
  | .tup _, .int _ => .gt
  | .tup _, .str _ => .gt
  | .tup xs, .tup ys => cmpL xs ys
def cmpL : List PV → List PV → Ordering
  | [], [] => .eq
  | [], _ :: _ => .lt
  | _ :: _, [] => .gt
  | x :: xs, y :: ys => (cmp x y).then (cmpL xs ys)
end

theorem cmpI_refl (i : Int) : cmpI i i = .eq := if_pos rfl
theorem cmpI_eq {i j : Int} (h : cmpI i j = .eq) : i = j := by
  unfold cmpI at h
  split at h
  · assumption
  · split at h <;> cases h
theorem cmpI_swap (i j : Int) : cmpI j i = (cmpI i j).swap := by
  unfold cmpI
  split <;> split <;> (try split) <;> (try split) <;> first | rfl | omega
theorem cmpI_lt {i j : Int} : cmpI i j = .lt ↔ i < j := by
  unfold cmpI
  split
  · subst_vars
    exact ⟨(fun h => nomatch h), fun h => absurd h (by omega)⟩
  · split
    · exact ⟨fun _ => by assumption, fun _ => rfl⟩
    · exact ⟨(fun h => nomatch h), fun h => absurd h (by assumption)⟩
theorem str_ext {x y : Str} (h : x.cps.toList = y.cps.toList) : x = y := by
  cases x
  cases y
  exact congrArg Str.mk (Array.toList_inj.mp h)
theorem cmpS_refl (x : Str) : cmpS x x = .eq := if_pos rfl
theorem cmpS_eq {x y : Str} (h : cmpS x y = .eq) : x = y := by
  unfold cmpS at h
  split at h
  · assumption
  · split at h <;> cases h
theorem cmpS_lt {x y : Str} : cmpS x y = .lt ↔ x.cps.toList < y.cps.toList := by
  unfold cmpS
  split
  · subst_vars
    exact ⟨(fun h => nomatch h), fun h => absurd h (List.lt_irrefl _)⟩
  · split
    · exact ⟨fun _ => by assumption, fun _ => rfl⟩
    · exact ⟨(fun h => nomatch h), fun h => absurd h (by assumption)⟩
theorem cmpS_swap (x y : Str) : cmpS y x = (cmpS x y).swap := by
  by_cases e : x = y
  · subst e
    rw [cmpS_refl]
    rfl
  by_cases h : x.cps.toList < y.cps.toList
  · have h1 : cmpS x y = .lt := cmpS_lt.mpr h
    have h2 : ¬ y.cps.toList < x.cps.toList := List.lt_asymm h
    rw [h1]
    unfold cmpS
    rw [if_neg (Ne.symm e), if_neg h2]
    rfl
  · have h1 : cmpS x y = .gt := by
      unfold cmpS
      rw [if_neg e, if_neg h]
    have h2 : y.cps.toList < x.cps.toList := by
      have a := List.not_lt.mp h
      by_cases b : y.cps.toList < x.cps.toList
      · exact b
      · exact absurd (str_ext (List.le_antisymm (List.not_lt.mp b) a)) e
    rw [h1, cmpS_lt.mpr h2]
    rfl

mutual
theorem cmp_refl : ∀ a : PV, cmp a a = .eq
  | .non => by simp only [cmp]
  | .int i => by simp only [cmp]; exact cmpI_refl i
  | .str x => by simp only [cmp]; exact cmpS_refl x
  | .tup xs => by simp only [cmp]; exact cmpL_refl xs
theorem cmpL_refl : ∀ xs : List PV, cmpL xs xs = .eq
  | [] => by simp only [cmpL]
  | x :: xs => by simp only [cmpL]; rw [cmp_refl x, cmpL_refl xs]; rfl
end
theorem then_eq {a b : Ordering} (h : a.then b = .eq) : a = .eq ∧ b = .eq := by
  cases a
  · cases h
  · exact ⟨rfl, h⟩
  · cases h
mutual
theorem cmp_eq : ∀ a b : PV, cmp a b = .eq → a = b
  | .non, .non, _ => rfl
  | .int i, .int j, h => by simp only [cmp] at h; rw [cmpI_eq h]
  | .str x, .str y, h => by simp only [cmp] at h; rw [cmpS_eq h]
  | .tup xs, .tup ys, h => by simp only [cmp] at h; rw [cmpL_eq xs ys h]
  | .non, .int _, h => by simp only [cmp] at h; cases h
  | .non, .str _, h => by simp only [cmp] at h; cases h
  | .non, .tup _, h => by simp only [cmp] at h; cases h
  | .int _, .non, h => by simp only [cmp] at h; cases h
  | .int _, .str _, h => by simp only [cmp] at h; cases h
  | .int _, .tup _, h => by simp only [cmp] at h; cases h
  | .str _, .non, h => by simp only [cmp] at h; cases h
  | .str _, .int _, h => by simp only [cmp] at h; cases h
  | .str _, .tup _, h => by simp only [cmp] at h; cases h
  | .tup _, .non, h => by simp only [cmp] at h; cases h
  | .tup _, .int _, h => by simp only [cmp] at h; cases h
  | .tup _, .str _, h => by simp only [cmp] at h; cases h
theorem cmpL_eq : ∀ xs ys : List PV, cmpL xs ys = .eq → xs = ys
  | [], [], _ => rfl
  | [], _ :: _, h => by simp only [cmpL] at h; cases h
  | _ :: _, [], h => by simp only [cmpL] at h; cases h
  | x :: xs, y :: ys, h => by
    simp only [cmpL] at h
    obtain ⟨h1, h2⟩ := then_eq h
    rw [cmp_eq x y h1, cmpL_eq xs ys h2]
end
theorem then_swap (a b : Ordering) : (a.then b).swap = a.swap.then b.swap := by cases a <;> rfl
mutual
theorem cmp_swap : ∀ a b : PV, cmp b a = (cmp a b).swap
  | .non, .non => by simp only [cmp]; rfl
  | .int i, .int j => by simp only [cmp]; exact cmpI_swap i j
  | .str x, .str y => by simp only [cmp]; exact cmpS_swap x y
  | .tup xs, .tup ys => by simp only [cmp]; exact cmpL_swap xs ys
  | .non, .int _ => by simp only [cmp]; rfl
  | .non, .str _ => by simp only [cmp]; rfl
  | .non, .tup _ => by simp only [cmp]; rfl
  | .int _, .non => by simp only [cmp]; rfl
  | .int _, .str _ => by simp only [cmp]; rfl
  | .int _, .tup _ => by simp only [cmp]; rfl
  | .str _, .non => by simp only [cmp]; rfl
  | .str _, .int _ => by simp only [cmp]; rfl
  | .str _, .tup _ => by simp only [cmp]; rfl
  | .tup _, .non => by simp only [cmp]; rfl
  | .tup _, .int _ => by simp only [cmp]; rfl
  | .tup _, .str _ => by simp only [cmp]; rfl
theorem cmpL_swap : ∀ xs ys : List PV, cmpL ys xs = (cmpL xs ys).swap
  | [], [] => by simp only [cmpL]; rfl
  | [], _ :: _ => by simp only [cmpL]; rfl
  | _ :: _, [] => by simp only [cmpL]; rfl
  | x :: xs, y :: ys => by simp only [cmpL]; rw [then_swap, cmp_swap x y, cmpL_swap xs ys]
end
theorem then_lt {a b : Ordering} (h : a.then b = .lt) : a = .lt ∨ (a = .eq ∧ b = .lt) := by
  cases a
  · exact .inl rfl
  · exact .inr ⟨rfl, h⟩
  · cases h
mutual
theorem cmp_trans : ∀ a b c : PV, cmp a b = .lt → cmp b c = .lt → cmp a c = .lt
  | .int i, .int j, .int k, h, g => by
    simp only [cmp] at h g ⊢
    exact cmpI_lt.mpr (Int.lt_trans (cmpI_lt.mp h) (cmpI_lt.mp g))
  | .str x, .str y, .str z, h, g => by
    simp only [cmp] at h g ⊢
    exact cmpS_lt.mpr (List.lt_trans (cmpS_lt.mp h) (cmpS_lt.mp g))
  | .tup xs, .tup ys, .tup zs, h, g => by
    simp only [cmp] at h g ⊢
    exact cmpL_trans xs ys zs h g
  | .non, .non, _, h, _ => by simp only [cmp] at h; cases h
  | .non, .int _, c, h, g => by cases c <;> simp only [cmp] at h g ⊢ <;> cases g
  | .non, .str _, c, h, g => by cases c <;> simp only [cmp] at h g ⊢ <;> cases g
  | .non, .tup _, c, h, g => by cases c <;> simp only [cmp] at h g ⊢ <;> cases g
  | .int _, .non, _, h, _ => by simp only [cmp] at h; cases h
  | .int _, .int _, .non, h, g => by simp only [cmp] at g; cases g
  | .int _, .int _, .str _, h, g => by simp only [cmp]
  | .int _, .int _, .tup _, h, g => by simp only [cmp]
  | .int _, .str _, c, h, g => by cases c <;> simp only [cmp] at h g ⊢ <;> first | cases g | rfl
  | .int _, .tup _, c, h, g => by cases c <;> simp only [cmp] at h g ⊢ <;> first | cases g | rfl
  | .str _, .non, _, h, _ => by simp only [cmp] at h; cases h
  | .str _, .int _, _, h, _ => by simp only [cmp] at h; cases h
  | .str _, .str _, .non, h, g => by simp only [cmp] at g; cases g
  | .str _, .str _, .int _, h, g => by simp only [cmp] at g; cases g
  | .str _, .str _, .tup _, h, g => by simp only [cmp]
  | .str _, .tup _, c, h, g => by cases c <;> simp only [cmp] at h g ⊢ <;> first | cases g | rfl
  | .tup _, .non, _, h, _ => by simp only [cmp] at h; cases h
  | .tup _, .int _, _, h, _ => by simp only [cmp] at h; cases h
  | .tup _, .str _, _, h, _ => by simp only [cmp] at h; cases h
  | .tup _, .tup _, .non, h, g => by simp only [cmp] at g; cases g
  | .tup _, .tup _, .int _, h, g => by simp only [cmp] at g; cases g
  | .tup _, .tup _, .str _, h, g => by simp only [cmp] at g; cases g
theorem cmpL_trans : ∀ xs ys zs : List PV, cmpL xs ys = .lt → cmpL ys zs = .lt → cmpL xs zs = .lt
  | [], [], _, h, _ => by simp only [cmpL] at h; cases h
  | _ :: _, [], _, h, _ => by simp only [cmpL] at h; cases h
  | _, _ :: _, [], _, g => by simp only [cmpL] at g; cases g
  | [], _ :: _, _ :: _, _, _ => by simp only [cmpL]
  | x :: xs, y :: ys, z :: zs, h, g => by
    simp only [cmpL] at h g ⊢
    rcases then_lt h with h1 | ⟨h1, h2⟩
    · rcases then_lt g with g1 | ⟨g1, g2⟩
      · rw [cmp_trans x y z h1 g1]
        rfl
      · rw [← cmp_eq y z g1, h1]
        rfl
    · rw [cmp_eq x y h1]
      rcases then_lt g with g1 | ⟨g1, g2⟩
      · rw [g1]
        rfl
      · rw [g1]
        exact cmpL_trans xs ys zs h2 g2
end
/-- less -/
def lt (a b : PV) : Bool := match cmp a b with
  | .lt => true
  | _ => false
theorem lt_iff {a b : PV} : lt a b = true ↔ cmp a b = .lt := by
  unfold lt
  cases cmp a b <;> simp
theorem lt_irrefl (a : PV) : lt a a = false := by
  unfold lt
  rw [cmp_refl]
theorem lt_trans {a b c : PV} (h : lt a b = true) (g : lt b c = true) : lt a c = true := lt_iff.mpr (cmp_trans a b c (lt_iff.mp h) (lt_iff.mp g))
theorem lt_asymm {a b : PV} (h : lt a b = true) : lt b a = false := by
  cases e : lt b a with
  | false => rfl
  | true => exact absurd (lt_trans h e) (by rw [lt_irrefl]; exact Bool.false_ne_true)
theorem lt_total {a b : PV} (h : lt a b = false) (g : lt b a = false) : a = b := by
  apply cmp_eq
  unfold lt at h g
  rw [cmp_swap a b] at g
  cases e : cmp a b with
  | eq => rfl
  | lt => rw [e] at h; cases h
  | gt => rw [e] at g; cases g
theorem lt_neg {a c : PV} (b : PV) (h : lt a c = true) : lt a b = true ∨ lt b c = true := by
  cases e : lt a b with
  | true => exact .inl rfl
  | false =>
    cases g : lt b a with
    | true => exact .inr (lt_trans g h)
    | false => rw [lt_total e g] at h; exact .inr h
theorem cmp_gt {a b : PV} : cmp a b = .gt ↔ lt b a = true := by
  rw [lt_iff, cmp_swap a b]
  cases cmp a b <;> simp [Ordering.swap]
/-- the number that the program gives -/
def num : Ordering → Int
  | .lt => -1
  | .eq => 0
  | .gt => 1
theorem num_zero {o : Ordering} (h : num o = 0) : o = .eq := by cases o <;> first | rfl | cases h
theorem num_neg (a b : PV) : decide (num (cmp a b) < 0) = lt a b := by
  unfold lt
  cases cmp a b <;> rfl

/-! ### ascending lists -/
def Asc (l : List PV) : Prop := l.Pairwise fun a b => lt a b = true
theorem asc_ext : ∀ {l m : List PV}, Asc l → Asc m → (∀ x, x ∈ l ↔ x ∈ m) → l = m
  | [], [], _, _, _ => rfl
  | [], y :: m, _, _, h => absurd ((h y).mpr (List.mem_cons_self ..)) List.not_mem_nil
  | x :: l, [], _, _, h => absurd ((h x).mp (List.mem_cons_self ..)) List.not_mem_nil
  | x :: l, y :: m, a, b, h => by
    obtain ⟨a1, a2⟩ := List.pairwise_cons.mp a
    obtain ⟨b1, b2⟩ := List.pairwise_cons.mp b
    have e : x = y := by
      rcases List.mem_cons.mp ((h x).mp (List.mem_cons_self ..)) with q | q
      · exact q
      · rcases List.mem_cons.mp ((h y).mpr (List.mem_cons_self ..)) with p | p
        · exact p.symm
        · have z := lt_asymm (a1 y p)
          rw [b1 x q] at z
          cases z
    subst e
    have nx : ∀ {k : List PV}, (∀ z ∈ k, lt x z = true) → x ∉ k := fun hk hx => by
      have z := hk x hx
      rw [lt_irrefl] at z
      cases z
    refine congrArg (List.cons x) (asc_ext a2 b2 fun z => ⟨fun q => ?_, fun q => ?_⟩)
    · rcases List.mem_cons.mp ((h z).mp (List.mem_cons_of_mem _ q)) with p | p
      · subst p
        exact absurd q (nx a1)
      · exact p
    · rcases List.mem_cons.mp ((h z).mpr (List.mem_cons_of_mem _ q)) with p | p
      · subst p
        exact absurd q (nx b1)
      · exact p

def ins (x : PV) : List PV → List PV
  | [] => [x]
  | y :: r => match cmp x y with
    | .lt => x :: y :: r
    | .eq => y :: r
    | .gt => y :: ins x r
theorem mem_ins {x z : PV} : ∀ {l : List PV}, z ∈ ins x l ↔ z = x ∨ z ∈ l
  | [] => by simp [ins]
  | y :: r => by
    unfold ins
    cases e : cmp x y with
    | lt => simp
    | eq =>
      have q := cmp_eq x y e
      subst q
      simp
    | gt =>
      simp only [List.mem_cons, mem_ins (l := r)]
      constructor
      · rintro (h | h | h)
        · exact .inr (.inl h)
        · exact .inl h
        · exact .inr (.inr h)
      · rintro (h | h | h)
        · exact .inr (.inl h)
        · exact .inl h
        · exact .inr (.inr h)
theorem asc_ins {x : PV} : ∀ {l : List PV}, Asc l → Asc (ins x l)
  | [], _ => List.pairwise_singleton _ _
  | y :: r, h => by
    obtain ⟨h1, h2⟩ := List.pairwise_cons.mp h
    unfold ins
    cases e : cmp x y with
    | lt =>
      have q : lt x y = true := lt_iff.mpr e
      refine List.pairwise_cons.mpr ⟨fun z hz => ?_, h⟩
      rcases List.mem_cons.mp hz with p | p
      · subst p
        exact q
      · exact lt_trans q (h1 z p)
    | eq => exact h
    | gt =>
      refine List.pairwise_cons.mpr ⟨fun z hz => ?_, asc_ins h2⟩
      rcases mem_ins.mp hz with p | p
      · subst p
        exact cmp_gt.mp e
      · exact h1 z p
/-- the ascending list of some values -/
def canon (l : List PV) : List PV := l.foldr ins []
theorem asc_canon : ∀ l : List PV, Asc (canon l)
  | [] => .nil
  | _ :: l => asc_ins (asc_canon l)
theorem mem_canon {z : PV} : ∀ {l : List PV}, z ∈ canon l ↔ z ∈ l
  | [] => Iff.rfl
  | x :: l => by
    show z ∈ ins x (canon l) ↔ _
    rw [mem_ins, mem_canon (l := l), List.mem_cons]
theorem canon_of {l m : List PV} (a : Asc l) (h : ∀ z, z ∈ l ↔ z ∈ m) : l = canon m := asc_ext a (asc_canon m) fun z => (h z).trans mem_canon.symm
theorem canon_congr {l m : List PV} (h : ∀ z, z ∈ l ↔ z ∈ m) : canon l = canon m := canon_of (asc_canon l) fun z => mem_canon.trans (h z)
theorem canon_idem (l : List PV) : canon (canon l) = canon l := canon_congr fun _ => mem_canon
theorem canon_len (l : List PV) : (canon l).length ≤ l.length := by
  induction l with
  | nil => exact Nat.le_refl _
  | cons x l ih =>
    have h : ∀ m : List PV, (ins x m).length ≤ m.length + 1 := by
      intro m
      induction m with
      | nil => exact Nat.le_refl _
      | cons y r ihm =>
        unfold ins
        cases cmp x y with
        | lt => exact Nat.le_refl _
        | eq => exact Nat.le_succ _
        | gt => exact Nat.succ_le_succ ihm
    exact Nat.le_trans (h _) (Nat.succ_le_succ ih)

/-! ### merging -/
def mrg : List PV → List PV → List PV
  | [], ys => ys
  | x :: xs, [] => x :: xs
  | x :: xs, y :: ys => match cmp x y with
    | .lt => x :: mrg xs (y :: ys)
    | .eq => x :: mrg xs ys
    | .gt => y :: mrg (x :: xs) ys
termination_by xs ys => xs.length + ys.length
theorem mrg_nil (xs : List PV) : mrg xs [] = xs := by cases xs <;> simp only [mrg]
theorem nil_mrg (ys : List PV) : mrg [] ys = ys := by simp only [mrg]
theorem mrg_cons (x y : PV) (xs ys : List PV) : mrg (x :: xs) (y :: ys) = match cmp x y with
    | .lt => x :: mrg xs (y :: ys)
    | .eq => x :: mrg xs ys
    | .gt => y :: mrg (x :: xs) ys := by
  rw [mrg]
theorem mem_mrg {z : PV} : ∀ {xs ys : List PV}, z ∈ mrg xs ys ↔ z ∈ xs ∨ z ∈ ys
  | [], ys => by simp [nil_mrg]
  | x :: xs, [] => by simp [mrg_nil]
  | x :: xs, y :: ys => by
    rw [mrg_cons]
    cases e : cmp x y with
    | lt =>
      simp only [List.mem_cons, mem_mrg (xs := xs) (ys := y :: ys)]
      exact or_assoc.symm
    | eq =>
      have q := cmp_eq x y e
      subst q
      simp only [List.mem_cons, mem_mrg (xs := xs) (ys := ys)]
      constructor
      · rintro (h | h | h)
        · exact .inl (.inl h)
        · exact .inl (.inr h)
        · exact .inr (.inr h)
      · rintro ((h | h) | h | h)
        · exact .inl h
        · exact .inr (.inl h)
        · exact .inl h
        · exact .inr (.inr h)
    | gt =>
      simp only [List.mem_cons, mem_mrg (xs := x :: xs) (ys := ys)]
      constructor
      · rintro (h | (h | h) | h)
        · exact .inr (.inl h)
        · exact .inl (.inl h)
        · exact .inl (.inr h)
        · exact .inr (.inr h)
      · rintro ((h | h) | h | h)
        · exact .inr (.inl (.inl h))
        · exact .inr (.inl (.inr h))
        · exact .inl h
        · exact .inr (.inr h)
termination_by xs ys => xs.length + ys.length
theorem asc_mrg : ∀ {xs ys : List PV}, Asc xs → Asc ys → Asc (mrg xs ys)
  | [], ys, _, h => by rw [nil_mrg]; exact h
  | x :: xs, [], h, _ => by rw [mrg_nil]; exact h
  | x :: xs, y :: ys, h, g => by
    obtain ⟨h1, h2⟩ := List.pairwise_cons.mp h
    obtain ⟨g1, g2⟩ := List.pairwise_cons.mp g
    rw [mrg_cons]
    cases e : cmp x y with
    | lt =>
      have q : lt x y = true := lt_iff.mpr e
      refine List.pairwise_cons.mpr ⟨fun z hz => ?_, asc_mrg h2 g⟩
      rcases mem_mrg.mp hz with p | p
      · exact h1 z p
      · rcases List.mem_cons.mp p with p | p
        · subst p
          exact q
        · exact lt_trans q (g1 z p)
    | eq =>
      have q := cmp_eq x y e
      subst q
      refine List.pairwise_cons.mpr ⟨fun z hz => ?_, asc_mrg h2 g2⟩
      rcases mem_mrg.mp hz with p | p
      · exact h1 z p
      · exact g1 z p
    | gt =>
      have q : lt y x = true := cmp_gt.mp e
      refine List.pairwise_cons.mpr ⟨fun z hz => ?_, asc_mrg h g2⟩
      rcases mem_mrg.mp hz with p | p
      · rcases List.mem_cons.mp p with p | p
        · subst p
          exact q
        · exact lt_trans q (h1 z p)
      · exact g1 z p
termination_by xs ys => xs.length + ys.length
theorem len_mrg : ∀ (xs ys : List PV), (mrg xs ys).length ≤ xs.length + ys.length
  | [], ys => by rw [nil_mrg]; exact Nat.le_add_left _ _
  | x :: xs, [] => by rw [mrg_nil]; exact Nat.le_refl _
  | x :: xs, y :: ys => by
    rw [mrg_cons]
    have a := len_mrg xs (y :: ys)
    have b := len_mrg xs ys
    have c := len_mrg (x :: xs) ys
    cases cmp x y <;> simp only [List.length_cons] at * <;> omega
termination_by xs ys => xs.length + ys.length

/-! ### rows of lists, merged by twos -/
def twos : List (List PV) → List (List PV)
  | a :: b :: r => mrg a b :: twos r
  | [a] => [a]
  | [] => []
theorem twos_len : ∀ r : List (List PV), (twos r).length = (r.length + 1) / 2
  | [] => by simp [twos]
  | [_] => by simp [twos]
  | a :: b :: r => by
    have h := twos_len r
    simp only [twos, List.length_cons]
    omega
theorem twos_at : ∀ (r : List (List PV)) (k : Nat) (a : List PV), r[2 * k]? = some a → (twos r)[k]? = some (mrg a (r.getD (2 * k + 1) []))
  | [], _, _, h => by simp at h
  | [a], 0, b, h => by
    simp at h
    subst h
    simp [twos, mrg_nil]
  | [a], k + 1, b, h => by
    rw [List.getElem?_eq_none (by simp; omega)] at h
    cases h
  | a :: b :: r, 0, c, h => by
    simp at h
    subst h
    simp [twos]
  | a :: b :: r, k + 1, c, h => by
    have e1 : 2 * (k + 1) = 2 * k + 1 + 1 := by omega
    have h' : r[2 * k]? = some c := by rw [e1] at h; simpa using h
    have q := twos_at r k c h'
    have e2 : 2 * (k + 1) + 1 = (2 * k + 1) + 1 + 1 := by omega
    show (twos r)[k]? = _
    rw [q, e2]
    simp
theorem twos_asc : ∀ {r : List (List PV)}, (∀ l ∈ r, Asc l) → ∀ l ∈ twos r, Asc l
  | [], _, _, h => absurd h List.not_mem_nil
  | [a], h, l, hl => h l hl
  | a :: b :: r, h, l, hl => by
    rcases List.mem_cons.mp hl with e | hl
    · subst e
      exact asc_mrg (h a (by simp)) (h b (by simp))
    · exact twos_asc (fun m hm => h m (by simp [hm])) l hl
theorem twos_mem {z : PV} : ∀ {r : List (List PV)}, (∃ l, l ∈ twos r ∧ z ∈ l) ↔ ∃ l, l ∈ r ∧ z ∈ l
  | [] => Iff.rfl
  | [a] => Iff.rfl
  | a :: b :: r => by
    have ih := twos_mem (z := z) (r := r)
    constructor
    · rintro ⟨l, hl, hz⟩
      rcases List.mem_cons.mp hl with e | hl
      · subst e
        rcases mem_mrg.mp hz with q | q
        · exact ⟨a, by simp, q⟩
        · exact ⟨b, by simp, q⟩
      · obtain ⟨m, hm, q⟩ := ih.mp ⟨l, hl, hz⟩
        exact ⟨m, by simp [hm], q⟩
    · rintro ⟨l, hl, hz⟩
      rcases List.mem_cons.mp hl with e | hl
      · subst e
        exact ⟨_, List.mem_cons_self .., mem_mrg.mpr (.inl hz)⟩
      · rcases List.mem_cons.mp hl with e | hl
        · subst e
          exact ⟨_, List.mem_cons_self .., mem_mrg.mpr (.inr hz)⟩
        · obtain ⟨m, hm, q⟩ := ih.mpr ⟨l, hl, hz⟩
          exact ⟨m, List.mem_cons_of_mem _ hm, q⟩
def total (r : List (List PV)) : Nat := (r.map List.length).sum
theorem twos_total : ∀ r : List (List PV), total (twos r) ≤ total r
  | [] => Nat.le_refl _
  | [_] => Nat.le_refl _
  | a :: b :: r => by
    have h := twos_total r
    have g := len_mrg a b
    unfold total at *
    simp only [twos, List.map_cons, List.sum_cons]
    omega
theorem total_mem : ∀ {r : List (List PV)} {l : List PV}, l ∈ r → l.length ≤ total r
  | [], _, h => absurd h List.not_mem_nil
  | a :: r, l, h => by
    unfold total
    simp only [List.map_cons, List.sum_cons]
    rcases List.mem_cons.mp h with e | h
    · subst e
      exact Nat.le_add_right _ _
    · have := total_mem h
      unfold total at this
      omega

/-! ### a sorted list, equal ones once -/
/-- one more behind what was found -/
def pushO : Ordering → List PV → PV → List PV
  | .eq, f, _ => f
  | .lt, f, v => f ++ [v]
  | .gt, f, v => f ++ [v]
def push1 (f : List PV) (v : PV) : List PV := match f.getLast? with
  | none => f ++ [v]
  | some u => pushO (cmp u v) f v
theorem push1_none {f : List PV} {v : PV} (e : f.getLast? = none) : push1 f v = f ++ [v] := by unfold push1; rw [e]
theorem push1_some {f : List PV} {u v : PV} (e : f.getLast? = some u) : push1 f v = pushO (cmp u v) f v := by unfold push1; rw [e]
def once (l : List PV) : List PV := l.foldl push1 []
theorem once_snoc (l : List PV) (v : PV) : once (l ++ [v]) = push1 (once l) v := by
  unfold once
  rw [List.foldl_append]
  rfl
theorem push1_mem {f : List PV} {v z : PV} : z ∈ push1 f v ↔ z ∈ f ∨ z = v := by
  cases e : f.getLast? with
  | none => rw [push1_none e]; simp
  | some u =>
    rw [push1_some e]
    cases g : cmp u v with
    | eq =>
      have q := cmp_eq u v g
      have hu : u ∈ f := List.mem_of_getLast? e
      show z ∈ f ↔ _
      constructor
      · exact fun h => .inl h
      · rintro (h | h)
        · exact h
        · rw [h, ← q]
          exact hu
    | lt => simp [pushO]
    | gt => simp [pushO]
theorem once_mem {z : PV} (l : List PV) : z ∈ once l ↔ z ∈ l := by
  have key : ∀ (l f : List PV), z ∈ l.foldl push1 f ↔ z ∈ f ∨ z ∈ l := by
    intro l
    induction l with
    | nil => intro f; simp
    | cons x l ih =>
      intro f
      rw [List.foldl_cons, ih, push1_mem, List.mem_cons, or_assoc]
  have h := key l []
  unfold once
  rw [h]
  simp
theorem push1_len (f : List PV) (v : PV) : (push1 f v).length ≤ f.length + 1 := by
  cases e : f.getLast? with
  | none => rw [push1_none e]; simp
  | some u => rw [push1_some e]; cases cmp u v <;> simp [pushO]
theorem once_len (l : List PV) : (once l).length ≤ l.length := by
  have key : ∀ (l f : List PV), (l.foldl push1 f).length ≤ f.length + l.length := by
    intro l
    induction l with
    | nil => intro f; exact Nat.le_refl _
    | cons x l ih =>
      intro f
      have h1 := ih (push1 f x)
      have h2 := push1_len f x
      rw [List.foldl_cons, List.length_cons]
      omega
  have h := key l []
  simpa [once] using h
/-- no later one is less than an earlier one -/
def Up (l : List PV) : Prop := l.Pairwise fun a b => lt b a = false
theorem asc_last {f : List PV} {u z : PV} (h : Asc f) (e : f.getLast? = some u) (hz : z ∈ f) : z = u ∨ lt z u = true := by
  obtain ⟨g, rfl⟩ := List.getLast?_eq_some_iff.mp e
  rcases List.mem_append.mp hz with q | q
  · exact .inr ((List.pairwise_append.mp h).2.2 z q u (by simp))
  · exact .inl (by simpa using q)
theorem push1_asc {f : List PV} {v : PV} (h : Asc f) (hv : ∀ z ∈ f, lt v z = false) : Asc (push1 f v) := by
  cases e : f.getLast? with
  | none =>
    rw [push1_none e]
    have q : f = [] := List.getLast?_eq_none_iff.mp e
    subst q
    exact List.pairwise_singleton _ _
  | some u =>
    rw [push1_some e]
    have hu : u ∈ f := List.mem_of_getLast? e
    have add : lt u v = true → Asc (f ++ [v]) := fun q => List.pairwise_append.mpr ⟨h, List.pairwise_singleton _ _, fun z hz w hw => by
      have hw' : w = v := by simpa using hw
      subst hw'
      rcases asc_last h e hz with p | p
      · subst p
        exact q
      · exact lt_trans p q⟩
    cases g : cmp u v with
    | eq => exact h
    | lt => exact add (lt_iff.mpr g)
    | gt =>
      have q := hv u hu
      rw [cmp_gt.mp g] at q
      cases q
theorem once_asc {l : List PV} (h : Up l) : Asc (once l) := by
  have key : ∀ (l f : List PV), Asc f → (∀ z ∈ f, ∀ v ∈ l, lt v z = false) → Up l → Asc (l.foldl push1 f) := by
    intro l
    induction l with
    | nil => intro f hf _ _; exact hf
    | cons x l ih =>
      intro f hf hl hu
      obtain ⟨u1, u2⟩ := List.pairwise_cons.mp hu
      rw [List.foldl_cons]
      refine ih _ (push1_asc hf fun z hz => hl z hz x (by simp)) (fun z hz v hv => ?_) u2
      rcases push1_mem.mp hz with q | q
      · exact hl z q v (by simp [hv])
      · subst q
        exact u1 v hv
  exact key l [] .nil (fun z hz => absurd hz List.not_mem_nil) h
theorem once_canon {l m : List PV} (h : Up l) (p : ∀ z, z ∈ l ↔ z ∈ m) : once l = canon m := canon_of (once_asc h) fun z => (once_mem l).trans (p z)
end K1

namespace K1
open PySem PySem.Spec PyProof.Rows L2

/-! ### plain values as data -/
mutual
def toD : PV → PyData
  | .non => .none
  | .int i => .int i
  | .str x => .str x
  | .tup xs => .tuple (toDs xs)
def toDs : List PV → List PyData
  | [] => []
  | x :: xs => toD x :: toDs xs
end
/-- the law's key of a value, as data -/
def rkOf : PV → PyData → PyData
  | .non, _ => .tuple [.int 0, .int 0]
  | .int i, _ => .tuple [.int 1, .int i]
  | .str x, _ => .tuple [.int 2, .str x]
  | .tup _, d => .tuple [.int 3, d]
mutual
def rkD : PV → PyData
  | .non => .tuple [.int 0, .int 0]
  | .int i => .tuple [.int 1, .int i]
  | .str x => .tuple [.int 2, .str x]
  | .tup xs => .tuple [.int 3, .tuple (rkDs xs)]
def rkDs : List PV → List PyData
  | [] => []
  | x :: xs => rkD x :: rkDs xs
end
theorem toDs_map : ∀ xs : List PV, toDs xs = xs.map toD
  | [] => by simp only [toDs, List.map_nil]
  | x :: xs => by simp only [toDs, List.map_cons]; rw [toDs_map xs]
theorem rkDs_map : ∀ xs : List PV, rkDs xs = xs.map rkD
  | [] => by simp only [rkDs, List.map_nil]
  | x :: xs => by simp only [rkDs, List.map_cons]; rw [rkDs_map xs]
/-! how deep, how large -/
mutual
def nest : PV → Nat
  | .non => 0
  | .int _ => 0
  | .str _ => 0
  | .tup xs => nests xs + 1
def nests : List PV → Nat
  | [] => 0
  | x :: xs => max (nest x) (nests xs)
end
mutual
def sz : PV → Nat
  | .non => 1
  | .int _ => 1
  | .str _ => 1
  | .tup xs => szs xs + 2
def szs : List PV → Nat
  | [] => 0
  | x :: xs => sz x + szs xs
end
/-- the signs of texts -/
def signs : Str := "abcdefghijklmnopqrstuvwxyz0123456789 "
def goodS (x : Str) : Prop := x.length ≤ 100 ∧ ∀ c ∈ x.cps.toList, c ∈ signs.cps.toList
mutual
def good : PV → Prop
  | .non => True
  | .int i => -1000000000000000000000000000000000000000000000000000000000000 < i ∧ i < 1000000000000000000000000000000000000000000000000000000000000
  | .str x => goodS x
  | .tup xs => goods xs
def goods : List PV → Prop
  | [] => True
  | x :: xs => good x ∧ goods xs
end
theorem sz_pos : ∀ p : PV, 1 ≤ sz p
  | .non => by simp only [sz]; exact Nat.le_refl _
  | .int _ => by simp only [sz]; exact Nat.le_refl _
  | .str _ => by simp only [sz]; exact Nat.le_refl _
  | .tup _ => by simp only [sz]; omega
theorem nests_mem : ∀ {xs : List PV} {x : PV}, x ∈ xs → nest x ≤ nests xs
  | [], _, h => absurd h List.not_mem_nil
  | y :: ys, x, h => by
    simp only [nests]
    rcases List.mem_cons.mp h with e | h
    · rw [e]
      exact Nat.le_max_left _ _
    · exact Nat.le_trans (nests_mem h) (Nat.le_max_right _ _)
theorem nests_le : ∀ {xs : List PV} {n : Nat}, (∀ x ∈ xs, nest x ≤ n) → nests xs ≤ n
  | [], _, _ => by simp only [nests]; exact Nat.zero_le _
  | y :: ys, n, h => by
    simp only [nests]
    exact Nat.max_le.mpr ⟨h y (by simp), nests_le fun x hx => h x (by simp [hx])⟩
theorem szs_mem : ∀ {xs : List PV} {x : PV}, x ∈ xs → sz x ≤ szs xs
  | [], _, h => absurd h List.not_mem_nil
  | y :: ys, x, h => by
    simp only [szs]
    rcases List.mem_cons.mp h with e | h
    · rw [e]
      exact Nat.le_add_right _ _
    · exact Nat.le_trans (szs_mem h) (Nat.le_add_left _ _)
theorem szs_le : ∀ {xs : List PV} {n : Nat}, (∀ x ∈ xs, sz x ≤ n) → szs xs ≤ xs.length * n
  | [], _, _ => by simp only [szs]; exact Nat.zero_le _
  | y :: ys, n, h => by
    have a := h y (by simp)
    have b := szs_le (xs := ys) fun x hx => h x (by simp [hx])
    simp only [szs, List.length_cons]
    rw [Nat.add_mul]
    omega
theorem szs_len : ∀ xs : List PV, xs.length ≤ szs xs
  | [] => Nat.zero_le _
  | x :: xs => by
    have := sz_pos x
    have := szs_len xs
    simp only [szs, List.length_cons]
    omega
theorem szs_app : ∀ xs ys : List PV, szs (xs ++ ys) = szs xs + szs ys
  | [], ys => by simp [szs]
  | x :: xs, ys => by
    simp only [List.cons_append, szs]
    rw [szs_app xs ys]
    omega
theorem goods_mem : ∀ {xs : List PV}, goods xs ↔ ∀ x ∈ xs, good x
  | [] => by simp [goods]
  | y :: ys => by
    simp only [goods, List.mem_cons, goods_mem (xs := ys)]
    constructor
    · rintro ⟨h, g⟩ x (rfl | hx)
      · exact h
      · exact g x hx
    · exact fun h => ⟨h y (.inl rfl), fun x hx => h x (.inr hx)⟩

/-! ### == of such data -/
def isEq : Ordering → Bool
  | .eq => true
  | _ => false
theorem isEq_then (a b : Ordering) : isEq (a.then b) = (isEq a && isEq b) := by cases a <;> rfl
theorem isEq_iff {a b : PV} : isEq (cmp a b) = true ↔ a = b := by
  constructor
  · intro h
    apply cmp_eq
    cases e : cmp a b with
    | eq => rfl
    | lt => rw [e] at h; cases h
    | gt => rw [e] at h; cases h
  · rintro rfl
    rw [cmp_refl]
    rfl
theorem isEq_I (i j : Int) : isEq (cmpI i j) = (i == j) := by
  unfold cmpI
  by_cases h : i = j
  · subst h
    simp [isEq]
  · rw [if_neg h]
    have : (i == j) = false := by simpa using h
    rw [this]
    split <;> rfl
theorem isEq_S (x y : Str) : isEq (cmpS x y) = (x == y) := by
  unfold cmpS
  by_cases h : x = y
  · subst h
    simp [isEq]
  · rw [if_neg h]
    have : (x == y) = false := by simpa using h
    rw [this]
    split <;> rfl
mutual
theorem eqv_toD : ∀ a b : PV, PyData.eqv (toD a) (toD b) = isEq (cmp a b)
  | .non, .non => by simp only [toD, cmp, PyData.eqv]; rfl
  | .int i, .int j => by simp only [toD, cmp, PyData.eqv]; exact (isEq_I i j).symm
  | .str x, .str y => by simp only [toD, cmp, PyData.eqv]; exact (isEq_S x y).symm
  | .tup xs, .tup ys => by simp only [toD, cmp, PyData.eqv]; exact eqv_toDs xs ys
  | .non, .int _ => by simp only [toD, cmp, PyData.eqv]; rfl
  | .non, .str _ => by simp only [toD, cmp, PyData.eqv]; rfl
  | .non, .tup _ => by simp only [toD, cmp, PyData.eqv]; rfl
  | .int _, .non => by simp only [toD, cmp, PyData.eqv]; rfl
  | .int _, .str _ => by simp only [toD, cmp, PyData.eqv]; rfl
  | .int _, .tup _ => by simp only [toD, cmp, PyData.eqv]; rfl
  | .str _, .non => by simp only [toD, cmp, PyData.eqv]; rfl
  | .str _, .int _ => by simp only [toD, cmp, PyData.eqv]; rfl
  | .str _, .tup _ => by simp only [toD, cmp, PyData.eqv]; rfl
  | .tup _, .non => by simp only [toD, cmp, PyData.eqv]; rfl
  | .tup _, .int _ => by simp only [toD, cmp, PyData.eqv]; rfl
  | .tup _, .str _ => by simp only [toD, cmp, PyData.eqv]; rfl
theorem eqv_toDs : ∀ xs ys : List PV, PyData.eqvAll (toDs xs) (toDs ys) = isEq (cmpL xs ys)
  | [], [] => by simp only [toDs, cmpL, PyData.eqvAll]; rfl
  | [], _ :: _ => by simp only [toDs, cmpL, PyData.eqvAll]; rfl
  | _ :: _, [] => by simp only [toDs, cmpL, PyData.eqvAll]; rfl
  | x :: xs, y :: ys => by simp only [toDs, cmpL, PyData.eqvAll]; rw [isEq_then, eqv_toD x y, eqv_toDs xs ys]
end
theorem eqv_two (i j : Int) (x y : PyData) : PyData.eqv (.tuple [.int i, x]) (.tuple [.int j, y]) = ((i == j) && PyData.eqv x y) := by
  simp only [PyData.eqv, PyData.eqvAll, Bool.and_true]
mutual
theorem eqv_rkD : ∀ a b : PV, PyData.eqv (rkD a) (rkD b) = isEq (cmp a b)
  | .non, .non => by simp only [rkD, cmp, eqv_two, PyData.eqv]; rfl
  | .int i, .int j => by simp only [rkD, cmp, eqv_two, PyData.eqv, isEq_I, beq_self_eq_true, Bool.true_and]
  | .str x, .str y => by simp only [rkD, cmp, eqv_two, PyData.eqv, isEq_S, beq_self_eq_true, Bool.true_and]
  | .tup xs, .tup ys => by simp only [rkD, cmp, eqv_two, PyData.eqv, beq_self_eq_true, Bool.true_and]; exact eqv_rkDs xs ys
  | .non, .int _ => by simp only [rkD, cmp, eqv_two]; rfl
  | .non, .str _ => by simp only [rkD, cmp, eqv_two]; rfl
  | .non, .tup _ => by simp only [rkD, cmp, eqv_two]; rfl
  | .int _, .non => by simp only [rkD, cmp, eqv_two]; rfl
  | .int _, .str _ => by simp only [rkD, cmp, eqv_two]; rfl
  | .int _, .tup _ => by simp only [rkD, cmp, eqv_two]; rfl
  | .str _, .non => by simp only [rkD, cmp, eqv_two]; rfl
  | .str _, .int _ => by simp only [rkD, cmp, eqv_two]; rfl
  | .str _, .tup _ => by simp only [rkD, cmp, eqv_two]; rfl
  | .tup _, .non => by simp only [rkD, cmp, eqv_two]; rfl
  | .tup _, .int _ => by simp only [rkD, cmp, eqv_two]; rfl
  | .tup _, .str _ => by simp only [rkD, cmp, eqv_two]; rfl
theorem eqv_rkDs : ∀ xs ys : List PV, PyData.eqvAll (rkDs xs) (rkDs ys) = isEq (cmpL xs ys)
  | [], [] => by simp only [rkDs, cmpL, PyData.eqvAll]; rfl
  | [], _ :: _ => by simp only [rkDs, cmpL, PyData.eqvAll]; rfl
  | _ :: _, [] => by simp only [rkDs, cmpL, PyData.eqvAll]; rfl
  | x :: xs, y :: ys => by simp only [rkDs, cmpL, PyData.eqvAll]; rw [isEq_then, eqv_rkD x y, eqv_rkDs xs ys]
end
theorem signs_small : ∀ c ∈ signs.cps.toList, c < 0x110000 := by decide +kernel
mutual
theorem can_toD : ∀ p : PV, good p → (toD p).canLay0 = true
  | .non, _ => by simp only [toD, PyData.canLay0]
  | .int _, _ => by simp only [toD, PyData.canLay0]
  | .str x, h => by
    simp only [toD, PyData.canLay0]
    unfold PyData.strOk
    rw [Array.all_eq_true_iff_forall_mem]
    intro c hc
    simp only [good, goodS] at h
    exact decide_eq_true (signs_small c (h.2 c (by simpa using hc)))
  | .tup xs, h => by simp only [toD, PyData.canLay0]; exact can_toDs xs (by simpa only [good] using h)
theorem can_toDs : ∀ xs : List PV, goods xs → PyData.canLayAll0 (toDs xs) = true
  | [], _ => by simp only [toDs, PyData.canLayAll0]
  | x :: xs, h => by
    simp only [goods] at h
    simp only [toDs, PyData.canLayAll0]
    rw [can_toD x h.1, can_toDs xs h.2]
    rfl
end
mutual
theorem dep_toD : ∀ p : PV, (toD p).depth = nest p
  | .non => by simp only [toD, PyData.depth, nest]
  | .int _ => by simp only [toD, PyData.depth, nest]
  | .str _ => by simp only [toD, PyData.depth, nest]
  | .tup xs => by simp only [toD, PyData.depth, nest]; rw [dep_toDs xs]
theorem dep_toDs : ∀ xs : List PV, PyData.depthAll (toDs xs) = nests xs
  | [] => by simp only [toDs, PyData.depthAll, nests]
  | x :: xs => by simp only [toDs, PyData.depthAll, nests]; rw [dep_toD x, dep_toDs xs]
end
theorem shaped_toD {p : PV} (h : good p) (hn : nest p ≤ 64) : SeqAt.shaped (toD p) = true := by
  unfold SeqAt.shaped
  rw [can_toD p h, dep_toD, decide_eq_true hn]
  rfl
theorem can_two {i : Int} {x : PyData} (h : x.canLay0 = true) : (PyData.tuple [.int i, x]).canLay0 = true := by
  simp only [PyData.canLay0, PyData.canLayAll0, h, Bool.and_self]
theorem dep_two {i : Int} {x : PyData} : (PyData.tuple [.int i, x]).depth = x.depth + 1 := by
  simp only [PyData.depth, PyData.depthAll, Nat.zero_max, Nat.max_zero]
mutual
theorem can_rkD : ∀ p : PV, good p → (rkD p).canLay0 = true
  | .non, _ => by simp only [rkD]; exact can_two (by simp only [PyData.canLay0])
  | .int _, _ => by simp only [rkD]; exact can_two (by simp only [PyData.canLay0])
  | .str x, h => by
    simp only [rkD]
    exact can_two (by simpa only [toD] using can_toD (.str x) h)
  | .tup xs, h => by simp only [rkD]; exact can_two (by simp only [PyData.canLay0]; exact can_rkDs xs (by simpa only [good] using h))
theorem can_rkDs : ∀ xs : List PV, goods xs → PyData.canLayAll0 (rkDs xs) = true
  | [], _ => by simp only [rkDs, PyData.canLayAll0]
  | x :: xs, h => by
    simp only [goods] at h
    simp only [rkDs, PyData.canLayAll0]
    rw [can_rkD x h.1, can_rkDs xs h.2]
    rfl
end
mutual
theorem dep_rkD : ∀ p : PV, (rkD p).depth ≤ 2 * nest p + 1
  | .non => by simp only [rkD, dep_two, PyData.depth, nest]; omega
  | .int _ => by simp only [rkD, dep_two, PyData.depth, nest]; omega
  | .str _ => by simp only [rkD, dep_two, PyData.depth, nest]; omega
  | .tup xs => by
    have := dep_rkDs xs
    simp only [rkD, dep_two, PyData.depth, nest]
    omega
theorem dep_rkDs : ∀ xs : List PV, PyData.depthAll (rkDs xs) ≤ 2 * nests xs + 1
  | [] => by simp only [rkDs, PyData.depthAll]; omega
  | x :: xs => by
    have a := dep_rkD x
    have b := dep_rkDs xs
    simp only [rkDs, PyData.depthAll, nests]
    omega
end
theorem shaped_rkD {p : PV} (h : good p) (hn : nest p ≤ 30) : SeqAt.shaped (rkD p) = true := by
  have := dep_rkD p
  unfold SeqAt.shaped
  rw [can_rkD p h, decide_eq_true (by omega)]
  rfl

/-! ### the data over the heap -/
/-- what stood stands, but for the object at d -/
def But (d : Addr) (H H' : Hp) : Prop := ∀ b o, b ≠ d → H b = some o → H' b = some o
theorem But.refl (d : Addr) (H : Hp) : But d H H := fun _ _ _ h => h
theorem But.trans {d : Addr} {H H1 H2 : Hp} (a : But d H H1) (b : But d H1 H2) : But d H H2 := fun c o n h => b c o n (a c o n h)
theorem But.same {d : Addr} {H H1 : Hp} (a : Same H H1) : But d H H1 := fun c o _ h => a c o h
theorem But.free {d : Addr} {H H' : Hp} (e : But d H H') {l : Addr} (hl : l ≠ d) (h : H' l = Option.none) : H l = Option.none := by
  cases q : H l with
  | none => rfl
  | some o =>
    rw [e l o hl q] at h
    cases h
/-- the tuples stand -/
def Tups (H H' : Hp) : Prop := ∀ b xs, (H b = some (.tup xs) → H' b = some (.tup xs)) ∧ ∀ o, H b = some (.frz o (.tup xs)) → H' b = some (.frz o (.tup xs))
theorem Tups.of {d : Addr} {H H' : Hp} {ys : List V} (e : But d H H') (h : H d = some (.lst ys)) : Tups H H' := fun b xs =>
  ⟨fun q => e b _ (ne_of q h (by intro z; cases z)) q, fun o q => e b _ (ne_of q h (by intro z; cases z)) q⟩
theorem Tups.same {H H' : Hp} (e : Same H H') : Tups H H' := fun b xs => ⟨fun q => e b _ q, fun o q => e b _ q⟩
theorem Tups.seq {K : PySem.W.Frag} {H H' : Hp} {a : Addr} {xs : List V} (e : Tups H H') (h : SqT K H a xs) : SqT K H' a xs := by
  rcases h with (h | ⟨o, h⟩) | h
  · exact .inl (.inl ((e a xs).1 h))
  · exact .inl (.inr ⟨o, (e a xs).2 o h⟩)
  · exact .inr h
mutual
theorem dp_tups {K : PySem.W.Frag} {H H' : Hp} (e : Tups H H') : ∀ {v : V} (p : PV), Dp K H v (toD p) → Dp K H' v (toD p)
  | _, .non, h => by simp only [toD] at h ⊢; cases h; exact .non
  | _, .int i, h => by simp only [toD] at h ⊢; cases h; exact .int _
  | _, .str x, h => by simp only [toD] at h ⊢; cases h; exact .str _
  | _, .tup xs, h => by
    simp only [toD] at h ⊢
    cases h with
    | tup h1 h2 => exact .tup (e.seq h1) (dps_tups e xs h2)
theorem dps_tups {K : PySem.W.Frag} {H H' : Hp} (e : Tups H H') : ∀ {vs : List V} (ps : List PV), DpAll K H vs (toDs ps) → DpAll K H' vs (toDs ps)
  | _, [], h => by simp only [toDs] at h ⊢; cases h; exact .nil
  | _, p :: ps, h => by
    simp only [toDs] at h ⊢
    cases h with
    | cons h1 h2 => exact .cons (dp_tups e p h1) (dps_tups e ps h2)
end
mutual
theorem rk_tups {K : PySem.W.Frag} {H H' : Hp} (e : Tups H H') : ∀ {v : V} (p : PV), Dp K H v (rkD p) → Dp K H' v (rkD p)
  | _, .non, h => by
    simp only [rkD] at h ⊢
    cases h with
    | tup h1 h2 =>
      cases h2 with
      | cons a h2 =>
        cases h2 with
        | cons b h2 =>
          cases h2
          cases a
          cases b
          exact .tup (e.seq h1) (.cons (.int _) (.cons (.int _) .nil))
  | _, .int i, h => by
    simp only [rkD] at h ⊢
    cases h with
    | tup h1 h2 =>
      cases h2 with
      | cons a h2 =>
        cases h2 with
        | cons b h2 =>
          cases h2
          cases a
          cases b
          exact .tup (e.seq h1) (.cons (.int _) (.cons (.int _) .nil))
  | _, .str x, h => by
    simp only [rkD] at h ⊢
    cases h with
    | tup h1 h2 =>
      cases h2 with
      | cons a h2 =>
        cases h2 with
        | cons b h2 =>
          cases h2
          cases a
          cases b
          exact .tup (e.seq h1) (.cons (.int _) (.cons (.str _) .nil))
  | _, .tup xs, h => by
    simp only [rkD] at h ⊢
    cases h with
    | tup h1 h2 =>
      cases h2 with
      | cons a h2 =>
        cases h2 with
        | cons b h2 =>
          cases h2
          cases a
          cases b with
          | tup b1 b2 => exact .tup (e.seq h1) (.cons (.int _) (.cons (.tup (e.seq b1) (rks_tups e xs b2)) .nil))
theorem rks_tups {K : PySem.W.Frag} {H H' : Hp} (e : Tups H H') : ∀ {vs : List V} (ps : List PV), DpAll K H vs (rkDs ps) → DpAll K H' vs (rkDs ps)
  | _, [], h => by simp only [rkDs] at h ⊢; cases h; exact .nil
  | _, p :: ps, h => by
    simp only [rkDs] at h ⊢
    cases h with
    | cons h1 h2 => exact .cons (rk_tups e p h1) (rks_tups e ps h2)
end
section
variable {K : PySem.W.Frag} {H : Hp}
theorem dpa_len : ∀ {vs : List V} {ds : List PyData}, DpAll K H vs ds → vs.length = ds.length
  | _, _, .nil => rfl
  | _, _, .cons _ t => congrArg Nat.succ (dpa_len t)
theorem dps_len {vs : List V} {ps : List PV} (h : DpAll K H vs (toDs ps)) : vs.length = ps.length := by
  rw [dpa_len h, toDs_map, List.length_map]
theorem dpa_get : ∀ {vs : List V} {ds : List PyData} {i : Nat} {v : V}, DpAll K H vs ds → vs[i]? = some v → ∃ d, ds[i]? = some d ∧ Dp K H v d
  | _, _, _, _, .nil, h => by simp at h
  | _, _, 0, _, .cons a _, h => by simp at h; subst h; exact ⟨_, rfl, a⟩
  | _, _, i + 1, v, .cons _ t, h => by
    obtain ⟨d, h1, h2⟩ := dpa_get (i := i) (v := v) t (by simpa using h)
    exact ⟨d, by simpa using h1, h2⟩
theorem dps_get {vs : List V} {ps : List PV} {i : Nat} {v : V} (h : DpAll K H vs (toDs ps)) (e : vs[i]? = some v) : ∃ p, ps[i]? = some p ∧ Dp K H v (toD p) := by
  obtain ⟨d, h1, h2⟩ := dpa_get h e
  rw [toDs_map, List.getElem?_map] at h1
  cases q : ps[i]? with
  | none => rw [q] at h1; cases h1
  | some p =>
    rw [q] at h1
    have h1' : some (toD p) = some d := h1
    exact ⟨p, rfl, by rw [Option.some.inj h1']; exact h2⟩
theorem dpa_app : ∀ {vs ws : List V} {ds es : List PyData}, DpAll K H vs ds → DpAll K H ws es → DpAll K H (vs ++ ws) (ds ++ es)
  | _, _, _, _, .nil, h => h
  | _, _, _, _, .cons a t, h => .cons a (dpa_app t h)
theorem toDs_app (ps qs : List PV) : toDs (ps ++ qs) = toDs ps ++ toDs qs := by rw [toDs_map, toDs_map, toDs_map, List.map_append]
theorem dps_app {vs ws : List V} {ps qs : List PV} (h : DpAll K H vs (toDs ps)) (g : DpAll K H ws (toDs qs)) : DpAll K H (vs ++ ws) (toDs (ps ++ qs)) := by
  rw [toDs_app]
  exact dpa_app h g
theorem dps_one {v : V} {p : PV} (h : Dp K H v (toD p)) : DpAll K H [v] (toDs [p]) := by
  simp only [toDs]
  exact .cons h .nil
theorem dpa_take : ∀ {vs : List V} {ds : List PyData} (n : Nat), DpAll K H vs ds → DpAll K H (vs.take n) (ds.take n)
  | _, _, 0, _ => .nil
  | _, _, _ + 1, .nil => .nil
  | _, _, n + 1, .cons a t => .cons a (dpa_take n t)
theorem dpa_drop : ∀ {vs : List V} {ds : List PyData} (n : Nat), DpAll K H vs ds → DpAll K H (vs.drop n) (ds.drop n)
  | _, _, 0, h => h
  | _, _, _ + 1, .nil => .nil
  | _, _, n + 1, .cons a t => dpa_drop n t
theorem dps_take {vs : List V} {ps : List PV} (n : Nat) (h : DpAll K H vs (toDs ps)) : DpAll K H (vs.take n) (toDs (ps.take n)) := by
  rw [toDs_map, List.map_take, ← toDs_map]
  exact dpa_take n h
theorem dps_drop {vs : List V} {ps : List PV} (n : Nat) (h : DpAll K H vs (toDs ps)) : DpAll K H (vs.drop n) (toDs (ps.drop n)) := by
  rw [toDs_map, List.map_drop, ← toDs_map]
  exact dpa_drop n h
theorem dp_tup {v : V} {ps : List PV} (h : Dp K H v (toD (.tup ps))) : ∃ a xs, v = .ref a ∧ SqT K H a xs ∧ DpAll K H xs (toDs ps) := by
  simp only [toD] at h
  cases h with
  | tup h1 h2 => exact ⟨_, _, rfl, h1, h2⟩
theorem dp_mk {a : Addr} {xs : List V} {ps : List PV} (h : SqT K H a xs) (g : DpAll K H xs (toDs ps)) : Dp K H (.ref a) (toD (.tup ps)) := by
  simp only [toD]
  exact .tup h g
end
theorem same_upd {H : Hp} {p : Addr} {o : HO} (h : H p = none) : Same H (upd H p o) := fun b x e => by
  rw [upd_ne (ne_of_none e h)]
  exact e

/-! ### isinstance of a plain value -/
def kin : PV → String → Bool
  | .non, _ => false
  | .int _, T => T == "int"
  | .str _, T => T == "str"
  | .tup _, T => T == "tuple"
def four (T : String) : Prop := T = "int" ∨ T = "str" ∨ T = "tuple" ∨ T = "bool"
def rIsP (K : PySem.W.Frag) : List V → Hp → VK → Prop := fun xs H Q => ∃ (v : V) (p : PV) (T : String), xs = [v, .ty T] ∧ Dp K H v (toD p) ∧ four T ∧ Q (.bl (kin p T)) H
theorem cr_isP {X : Cx} : CallR X (.builtin "isinstance") (rIsP X.K) := by
  intro pins s σ H xs us Q I r h
  obtain ⟨v, p, T, rfl, hd, hT, q⟩ := h
  have go : ∀ t : String, TyX X.K H v (.type t) → kitB t T = some (kin p T) → rIsi X.K [v, .ty T] H Q := fun t ht hk => ⟨v, .ty T, _, _, _, rfl, .ty T, ht, kit_ty hk, q⟩
  refine call_isi pins s σ H _ us Q I r ?_
  cases p with
  | non =>
    simp only [toD] at hd
    cases hd
    refine go "NoneType" (.base .non) ?_
    rcases hT with rfl | rfl | rfl | rfl <;> decide +kernel
  | int i =>
    simp only [toD] at hd
    cases hd
    refine go "int" (.base (.int i)) ?_
    rcases hT with rfl | rfl | rfl | rfl <;> (show _ = some (_ == _)) <;> decide +kernel
  | str x =>
    simp only [toD] at hd
    cases hd
    refine go "str" (.base (.str x)) ?_
    rcases hT with rfl | rfl | rfl | rfl <;> (show _ = some (_ == _)) <;> decide +kernel
  | tup ps =>
    simp only [toD] at hd
    cases hd with
    | tup h1 h2 =>
      refine go "tuple" ?_ ?_
      · rcases h1 with (h1 | ⟨o, h1⟩) | ⟨o, its, n, k1, k2, _⟩
        · exact .base (.tup h1)
        · exact .fTuple h1
        · exact .kTuple k1 k2
      · rcases hT with rfl | rfl | rfl | rfl <;> (show _ = some (_ == _)) <;> decide +kernel
end K1

namespace K1
open PySem PySem.Spec PyProof.Rows L2
open SeqAt (EqAt RcLt firstLt firstLt_yes firstLt_no)
section
open AutoSeq1 (wpAny_loadPart')
open MeetsSeq MeetsSeq2 MeetsSeq3 SeqRoads2
/-- tuple < tuple where the items' own < is known at the first unlike place alone -/
theorem first_lt (p q : Addr) (us ws : Array Value) (n1 n2 : Nat) (d1 d2 : Option Addr) (s1 s2 : Array (Option Value)) (eqs les : Nat → Bool) :
    Meets (Builtin.«tuple.__lt__» ⟨[.ref p, .ref q], []⟩) (fun A R s =>
      s.heap.get? p = some { cls := .type "tuple", dict := d1, data := .seq us n1, slots := s1 } ∧
      s.heap.get? q = some { cls := .type "tuple", dict := d2, data := .seq ws n2, slots := s2 } ∧
      (∀ j (h1 : j < us.size) (h2 : j < ws.size), EqAt A.in1 s us[j] ws[j] (eqs j)) ∧
      (∀ j (h1 : j < us.size) (h2 : j < ws.size), (∀ i, i < j → eqs i = true) → eqs j = false → RcLt A.in1 s us[j] ws[j] (les j)) ∧
      R (.ok (.ret (.bool (firstLt eqs les (decide (us.size < ws.size)) (List.range (min us.size ws.size)))))) s) := by
  refine .of_wp fun prog w A R s h => ?_
  obtain ⟨hp, g, d, tk, os⟩ := s
  obtain ⟨hu, hw, he, hr, hR⟩ := h
  have sub := AutoSeq1.sub_tuple_tuple
  have zl : (us.toList.zip ws.toList).length = min us.size ws.size := by simp
  wp_walk using wpAny_loadPart' hu, wpAny_loadPart' hw, wpAny_forIn_list _ (fun left acc t => acc.1 = none ∧ t = ⟨hp, g, d, tk, os⟩ ∧ ∃ i, left = (us.toList.zip ws.toList).drop i ∧ (∀ k, k < i → eqs k = true) ∧ R (.ok (.ret (.bool (firstLt eqs les (decide (us.size < ws.size)) ((List.range (min us.size ws.size)).drop i))))) ⟨hp, g, d, tk, os⟩) _
  case turn =>
    rintro ⟨y, x⟩ left acc t ⟨hacc, rfl, i, hz, hall, hRi⟩
    have il : i < (us.toList.zip ws.toList).length := by
      rcases Nat.lt_or_ge i (us.toList.zip ws.toList).length with c | c
      · exact c
      · rw [List.drop_of_length_le c] at hz
        cases hz
    have im : i < min us.size ws.size := zl ▸ il
    have i1 : i < us.size := Nat.lt_of_lt_of_le im (Nat.min_le_left _ _)
    have i2 : i < ws.size := Nat.lt_of_lt_of_le im (Nat.min_le_right _ _)
    rw [List.drop_eq_getElem_cons il] at hz
    injection hz with hyx hleft
    obtain rfl : y = us[i] := by simpa using congrArg Prod.fst hyx
    obtain rfl : x = ws[i] := by simpa using congrArg Prod.snd hyx
    have hd : (List.range (min us.size ws.size)).drop i = i :: (List.range (min us.size ws.size)).drop (i + 1) := by
      simp [List.drop_eq_getElem_cons, im]
    rw [hd] at hRi
    refine wpAny_bind (he i i1 i2 prog w _ _ ?_)
    cases c : eqs i with
    | true =>
      rw [firstLt_yes c] at hRi
      wp_walk
      refine ⟨rfl, rfl, i + 1, hleft, fun k hk => ?_, hRi⟩
      rcases Nat.lt_or_ge k i with a | a
      · exact hall k a
      · rw [show k = i by omega]
        exact c
    | false =>
      rw [firstLt_no c] at hRi
      rw [if_pos (show (!false) = true from rfl)]
      refine wpAny_bind (wpAny_rule ?_)
      refine wpAny_bind (hr i i1 i2 hall c prog w _ _ ?_)
      wp_walk
      exact ⟨_, rfl, hRi⟩
  case fin =>
    rintro ⟨a1, a2⟩ t ⟨hacc, rfl, i, hz, hall, hRi⟩
    simp only at hacc
    subst hacc
    have ge : min us.size ws.size ≤ i := by
      rcases Nat.lt_or_ge i (us.toList.zip ws.toList).length with c | c
      · rw [List.drop_eq_getElem_cons c] at hz
        cases hz
      · exact zl ▸ c
    rw [List.drop_of_length_le (by simpa using ge)] at hRi
    wp_walk
    exact ⟨_, rfl, by simpa [Builtin.Tuple.tupleCompareSizes, firstLt] using hRi⟩
  case h => exact ⟨rfl, rfl, 0, rfl, fun k hk => absurd hk (Nat.not_lt_zero k), by simpa using hR⟩
theorem lt_tuples {A : Around} {s : Shared} {p q : Addr} {us ws : Array Value} {eqs les : Nat → Bool} (hu : s.heap.IsTuple p us) (hw : s.heap.IsTuple q ws) (room : A.units < cLine)
    (he : ∀ j (h1 : j < us.size) (h2 : j < ws.size), EqAt A.in1 s us[j] ws[j] (eqs j))
    (hr : ∀ j (h1 : j < us.size) (h2 : j < ws.size), (∀ i, i < j → eqs i = true) → eqs j = false → RcLt A.in1 s us[j] ws[j] (les j)) :
    RcLt A s (.ref p) (.ref q) (firstLt eqs les (decide (us.size < ws.size)) (List.range (min us.size ws.size))) := fun prog w E Q h => by
  obtain ⟨⟨c1, d1, t1, s1⟩, o1, k1, n1, e1⟩ := id hu
  obtain ⟨⟨c2, d2, t2, s2⟩, o2, k2, n2, e2⟩ := id hw
  simp only at k1 e1 k2 e2
  subst k1 e1 k2 e2
  refine richCompare_meets_room (op := .Lt) ⟨_, o1, rfl⟩ ⟨_, o2, rfl⟩ F.slot_tuple_lt F.entry_tuple_lt (F.args_tuple_lt_2 _ _) (first_lt p q us ws n1 n2 d1 d2 s1 s2 eqs les) ⟨o1, o2, he, hr, ?_⟩ room
  exact (show Value.bool _ ≠ Value.notImplemented ∧ Q (.bool _) s from ⟨(fun x => nomatch x), h⟩)
end

/-! ### the keys of plain values -/
def kcode : PV → Int
  | .non => 0
  | .int _ => 1
  | .str _ => 2
  | .tup _ => 3
def kbody : PV → PyData
  | .non => .int 0
  | .int i => .int i
  | .str x => .str x
  | .tup xs => .tuple (rkDs xs)
theorem rkD_eq (p : PV) : rkD p = .tuple [.int (kcode p), kbody p] := by cases p <;> simp only [rkD, kcode, kbody]
theorem kbody_can {p : PV} (h : good p) : (kbody p).canLay0 = true := by
  have := can_rkD p h
  rw [rkD_eq] at this
  simpa [PyData.canLay0, PyData.canLayAll0] using this
theorem lt_code {p q : PV} (h : kcode p ≠ kcode q) : lt p q = decide (kcode p < kcode q) := by
  unfold lt
  cases p <;> cases q <;> simp only [cmp] <;> first | rfl | exact absurd rfl h
theorem eq_body {p q : PV} (h : kcode p = kcode q) : PyData.eqv (kbody p) (kbody q) = isEq (cmp p q) := by
  have e := eqv_rkD p q
  rw [rkD_eq, rkD_eq, eqv_two, h, beq_self_eq_true, Bool.true_and] at e
  exact e
/-- one of the read items -/
theorem reads_at {h : Heap} : ∀ {vs : List Value} {ds : List PyData} {as : List Addr}, ReadsAll h vs ds as → ∀ j (hj : j < vs.length), ∃ bs, Reads h vs[j] (ds.getD j .none) bs
  | _, _, _, .nil, j, hj => absurd hj (Nat.not_lt_zero j)
  | _, _, _, .cons r _, 0, _ => ⟨_, r⟩
  | _, _, _, .cons _ t, j + 1, hj => by
    obtain ⟨bs, q⟩ := reads_at t j (Nat.lt_of_succ_lt_succ hj)
    exact ⟨bs, by simpa using q⟩
theorem first_rows : ∀ xs ys : List PV, firstLt (SeqAt.pairEq (rkDs xs) (rkDs ys)) (fun j => lt (xs.getD j .non) (ys.getD j .non)) (decide (xs.length < ys.length)) (List.range (min xs.length ys.length)) = lt (.tup xs) (.tup ys)
  | [], [] => by
    have e : lt (.tup []) (.tup []) = false := lt_irrefl _
    rw [e]
    rfl
  | [], y :: ys => by
    have e : lt (.tup []) (.tup (y :: ys)) = true := lt_iff.mpr (by simp only [cmp, cmpL])
    have m : min ([] : List PV).length (y :: ys).length = 0 := Nat.zero_min _
    rw [e, m]
    show decide (0 < (y :: ys).length) = true
    exact decide_eq_true (Nat.succ_pos _)
  | x :: xs, [] => by
    have e : lt (.tup (x :: xs)) (.tup []) = false := by
      unfold lt
      simp only [cmp, cmpL]
    have m : min (x :: xs).length ([] : List PV).length = 0 := Nat.min_zero _
    rw [e, m]
    show decide ((x :: xs).length < 0) = false
    exact decide_eq_false (Nat.not_lt_zero _)
  | x :: xs, y :: ys => by
    have ih := first_rows xs ys
    have shift : ∀ (e r : Nat → Bool) (b : Bool) (l : List Nat), firstLt e r b (l.map Nat.succ) = firstLt (fun j => e (j + 1)) (fun j => r (j + 1)) b l := by
      intro e r b l
      induction l with
      | nil => rfl
      | cons a l ihl =>
        rw [List.map_cons]
        unfold firstLt
        rw [ihl]
    have m : min (x :: xs).length (y :: ys).length = min xs.length ys.length + 1 := by
      simp only [List.length_cons]
      omega
    have fin : decide ((x :: xs).length < (y :: ys).length) = decide (xs.length < ys.length) := by
      simp only [List.length_cons, Nat.add_lt_add_iff_right]
    have e0 : SeqAt.pairEq (rkDs (x :: xs)) (rkDs (y :: ys)) 0 = isEq (cmp x y) := by
      show PyData.eqv ((rkDs (x :: xs)).getD 0 .none) ((rkDs (y :: ys)).getD 0 .none) = _
      simp only [rkDs, List.getD_cons_zero]
      exact eqv_rkD x y
    have es : (fun j => SeqAt.pairEq (rkDs (x :: xs)) (rkDs (y :: ys)) (j + 1)) = SeqAt.pairEq (rkDs xs) (rkDs ys) := by
      funext j
      show PyData.eqv ((rkDs (x :: xs)).getD (j + 1) .none) ((rkDs (y :: ys)).getD (j + 1) .none) = _
      simp only [rkDs, List.getD_cons_succ]
    have rs : (fun j => lt ((x :: xs).getD (j + 1) .non) ((y :: ys).getD (j + 1) .non)) = fun j => lt (xs.getD j .non) (ys.getD j .non) := by
      funext j
      simp only [List.getD_cons_succ]
    rw [m, fin, List.range_succ_eq_map]
    have lo : lt (.tup (x :: xs)) (.tup (y :: ys)) = if isEq (cmp x y) = true then lt (.tup xs) (.tup ys) else lt x y := by
      unfold lt
      simp only [cmp, cmpL]
      cases cmp x y <;> rfl
    rw [lo, ← ih, ← es, ← rs]
    show (if SeqAt.pairEq (rkDs (x :: xs)) (rkDs (y :: ys)) 0 = true then _ else lt ((x :: xs).getD 0 .non) ((y :: ys).getD 0 .non)) = _
    rw [e0]
    cases isEq (cmp x y) with
    | true =>
      rw [if_pos rfl, if_pos rfl]
      exact shift _ _ _ _
    | false => rfl

mutual
theorem rank_lt : ∀ (p q : PV) (A : Around) (s : Shared) (a b : Value) (as bs : List Addr), Reads s.heap a (rkD p) as → Reads s.heap b (rkD q) bs → good p → good q → A.units + 2 * nest p + 2 < cLine →
    A.units + 2 * nest q + 2 < cLine → RcLt A s a b (lt p q) := by
  intro p q A s a b as bs ra rb gp gq up uq
  rw [rkD_eq] at ra rb
  cases ra with
  | @tuple la oa va na _ as1 a1 a2 a3 a4 =>
    cases rb with
    | @tuple lb ob vb nb _ bs1 b1 b2 b3 b4 =>
      have sa : va.size = 2 := by simpa using SeqAt.ReadsAll.length _ _ _ a4
      have sb : vb.size = 2 := by simpa using SeqAt.ReadsAll.length _ _ _ b4
      have hc := rkD_eq p
      have room : A.in1.units + min (PyData.depthAll [.int (kcode p), kbody p]) (PyData.depthAll [.int (kcode q), kbody q]) < cLine := by
        have d := dep_rkD p
        rw [rkD_eq, PyData.depth] at d
        show A.units + 1 + _ < cLine
        omega
      have he := SeqAt.eqAt_readsAll [.int (kcode p), kbody p] [.int (kcode q), kbody q] A.in1 s va.toList vb.toList _ _ a4 b4 (by simp [PyData.canLayAll0, PyData.canLay0, kbody_can gp]) (by simp [PyData.canLayAll0, PyData.canLay0, kbody_can gq]) room
      have key := lt_tuples (A := A) (s := s) (p := la) (q := lb) (us := va) (ws := vb) (eqs := SeqAt.pairEq [.int (kcode p), kbody p] [.int (kcode q), kbody q]) (les := fun j => if j = 0 then decide (kcode p < kcode q) else lt p q)
        ⟨oa, a1, a2, na, a3⟩ ⟨ob, b1, b2, nb, b3⟩ (by omega) (fun j h1 h2 => by
          have g := he j (by simpa using h1) (by simpa using h2)
          simpa using g) (fun j h1 h2 hall hj => ?_)
      · have e : firstLt (SeqAt.pairEq [.int (kcode p), kbody p] [.int (kcode q), kbody q]) (fun j => if j = 0 then decide (kcode p < kcode q) else lt p q) (decide (va.size < vb.size)) (List.range (min va.size vb.size)) = lt p q := by
          rw [sa, sb]
          show firstLt _ _ (decide (2 < 2)) [0, 1] = _
          unfold firstLt
          by_cases hk : kcode p = kcode q
          · have e0 : SeqAt.pairEq [.int (kcode p), kbody p] [.int (kcode q), kbody q] 0 = true := by
              show PyData.eqv (.int (kcode p)) (.int (kcode q)) = true
              simp [PyData.eqv, hk]
            have e1 : SeqAt.pairEq [.int (kcode p), kbody p] [.int (kcode q), kbody q] 1 = isEq (cmp p q) := eq_body hk
            rw [if_pos e0]
            unfold firstLt
            rw [e1]
            cases c : isEq (cmp p q) with
            | true =>
              rw [if_pos rfl, isEq_iff.mp c, lt_irrefl]
              rfl
            | false =>
              rw [if_neg Bool.false_ne_true, if_neg (by decide)]
          · have e0 : SeqAt.pairEq [.int (kcode p), kbody p] [.int (kcode q), kbody q] 0 = false := by
              show PyData.eqv (.int (kcode p)) (.int (kcode q)) = false
              simp [PyData.eqv, hk]
            rw [e0, if_neg Bool.false_ne_true, if_pos rfl]
            exact (lt_code hk).symm
        rw [e] at key
        exact key
      · have hj2 : j < 2 := sa ▸ h1
        cases j with
        | zero =>
          cases hv : va.toList with
          | nil => rw [hv] at a4; cases a4
          | cons x r =>
            cases hw : vb.toList with
            | nil => rw [hw] at b4; cases b4
            | cons y t =>
              have ex : va[0] = x := by
                have : va.toList[0]? = some x := by rw [hv]; rfl
                simpa [h1] using this
              have ey : vb[0] = y := by
                have : vb.toList[0]? = some y := by rw [hw]; rfl
                simpa [h2] using this
              rw [hv] at a4
              rw [hw] at b4
              cases a4 with
              | cons r1 _ =>
                cases b4 with
                | cons r2 _ =>
                  rw [ex, ey]
                  cases r1
                  cases r2
                  exact fun prog w E Q h => P.lt_int h
        | succ j =>
          have hj0 : j = 0 := by omega
          subst hj0
          have hk : kcode p = kcode q := by
            have := hall 0 (by omega)
            have e : PyData.eqv (.int (kcode p)) (.int (kcode q)) = true := this
            simpa [PyData.eqv] using e
          cases hv : va.toList with
          | nil => rw [hv] at a4; cases a4
          | cons x r =>
            cases hw : vb.toList with
            | nil => rw [hw] at b4; cases b4
            | cons y t =>
              rw [hv] at a4
              rw [hw] at b4
              cases a4 with
              | cons _ r1 =>
                cases b4 with
                | cons _ r2 =>
                  cases r1 with
                  | @cons x2 d2 vs2 _ _ _ q1 q2 =>
                    cases r2 with
                    | @cons y2 e2 ws2 _ _ _ w1 w2 =>
                      have ex : va[0 + 1] = x2 := by
                        have : va.toList[0 + 1]? = some x2 := by rw [hv]; rfl
                        simpa [h1] using this
                      have ey : vb[0 + 1] = y2 := by
                        have : vb.toList[0 + 1]? = some y2 := by rw [hw]; rfl
                        simpa [h2] using this
                      rw [ex, ey]
                      show RcLt A.in1 s x2 y2 (if 0 + 1 = 0 then _ else lt p q)
                      rw [if_neg (by omega)]
                      have hne : isEq (cmp p q) = false := by
                        rw [← eq_body hk]
                        exact hj
                      exact body_lt p q A.in1 s x2 y2 _ _ q1 w1 gp gq (by show A.units + 1 + 2 * nest p + 1 < cLine; omega) (by show A.units + 1 + 2 * nest q + 1 < cLine; omega) hk hne
termination_by p q => 2 * sz p + 1
theorem body_lt : ∀ (p q : PV) (A : Around) (s : Shared) (a b : Value) (as bs : List Addr), Reads s.heap a (kbody p) as → Reads s.heap b (kbody q) bs → good p → good q → A.units + 2 * nest p + 1 < cLine → A.units + 2 * nest q + 1 < cLine →
    kcode p = kcode q → isEq (cmp p q) = false → RcLt A s a b (lt p q)
  | .non, .non, _, _, _, _, _, _, _, _, _, _, _, _, _, h => by rw [cmp_refl] at h; cases h
  | .int i, .int j, A, s, a, b, as, bs, ra, rb, _, _, _, _, _, _ => by
    simp only [kbody] at ra rb
    cases ra
    cases rb
    have e : lt (.int i) (.int j) = decide (i < j) := by
      rw [Bool.eq_iff_iff, lt_iff, decide_eq_true_iff]
      simp only [cmp]
      exact cmpI_lt
    rw [e]
    exact fun prog w E Q h => P.lt_int h
  | .str x, .str y, A, s, a, b, as, bs, ra, rb, _, _, _, _, _, _ => by
    simp only [kbody] at ra rb
    cases ra
    cases rb
    have e : lt (.str x) (.str y) = decide (x.cps.toList < y.cps.toList) := by
      rw [Bool.eq_iff_iff, lt_iff, decide_eq_true_iff]
      simp only [cmp]
      exact cmpS_lt
    rw [e]
    exact fun prog w E Q h => P.lt_str h
  | .tup xs, .tup ys, A, s, a, b, as, bs, ra, rb, gp, gq, up, uq, _, _ => by
    simp only [kbody] at ra rb
    simp only [good] at gp gq
    simp only [nest] at up uq
    cases ra with
    | @tuple la oa va na _ as1 a1 a2 a3 a4 =>
      cases rb with
      | @tuple lb ob vb nb _ bs1 b1 b2 b3 b4 =>
        have sa : va.size = xs.length := by
          have := SeqAt.ReadsAll.length _ _ _ a4
          rw [rkDs_map, List.length_map] at this
          simpa using this
        have sb : vb.size = ys.length := by
          have := SeqAt.ReadsAll.length _ _ _ b4
          rw [rkDs_map, List.length_map] at this
          simpa using this
        have dx := dep_rkDs xs
        have room : A.in1.units + min (PyData.depthAll (rkDs xs)) (PyData.depthAll (rkDs ys)) < cLine := by
          show A.units + 1 + _ < cLine
          omega
        have he := SeqAt.eqAt_readsAll (rkDs xs) (rkDs ys) A.in1 s va.toList vb.toList _ _ a4 b4 (can_rkDs xs gp) (can_rkDs ys gq) room
        rw [← first_rows xs ys, ← sa, ← sb]
        refine lt_tuples ⟨oa, a1, a2, na, a3⟩ ⟨ob, b1, b2, nb, b3⟩ (by omega) (fun j h1 h2 => by
          have g := he j (by simpa using h1) (by simpa using h2)
          simpa using g) fun j h1 h2 _ _ => ?_
        have j1 : j < xs.length := sa ▸ h1
        have j2 : j < ys.length := sb ▸ h2
        have g1 := goods_mem.mp gp xs[j] (List.getElem_mem j1)
        have g2 := goods_mem.mp gq ys[j] (List.getElem_mem j2)
        have n1 := nests_mem (List.getElem_mem j1)
        have n2 := nests_mem (List.getElem_mem j2)
        have z1 := szs_mem (List.getElem_mem j1)
        obtain ⟨c1, r1⟩ := reads_at a4 j (by simpa using h1)
        obtain ⟨c2, r2⟩ := reads_at b4 j (by simpa using h2)
        rw [rkDs_map] at r1 r2
        have e1 : ((xs.map rkD).getD j .none) = rkD xs[j] := by simp [List.getD_eq_getElem?_getD, j1]
        have e2 : ((ys.map rkD).getD j .none) = rkD ys[j] := by simp [List.getD_eq_getElem?_getD, j2]
        have e3 : xs.getD j .non = xs[j] := by simp [List.getD_eq_getElem?_getD, j1]
        have e4 : ys.getD j .non = ys[j] := by simp [List.getD_eq_getElem?_getD, j2]
        rw [e1] at r1
        rw [e2] at r2
        show RcLt A.in1 s va[j] vb[j] (lt (xs.getD j .non) (ys.getD j .non))
        rw [e3, e4]
        have m1 : va.toList[j]'(by simpa using h1) = va[j] := by simp
        have m2 : vb.toList[j]'(by simpa using h2) = vb[j] := by simp
        rw [m1] at r1
        rw [m2] at r2
        exact rank_lt xs[j] ys[j] A.in1 s va[j] vb[j] c1 c2 r1 r2 g1 g2 (by show A.units + 1 + 2 * nest xs[j] + 2 < cLine; omega) (by show A.units + 1 + 2 * nest ys[j] + 2 < cLine; omega)
  | .non, .int _, _, _, _, _, _, _, _, _, _, _, _, _, h, _ => by cases h
  | .non, .str _, _, _, _, _, _, _, _, _, _, _, _, _, h, _ => by cases h
  | .non, .tup _, _, _, _, _, _, _, _, _, _, _, _, _, h, _ => by cases h
  | .int _, .non, _, _, _, _, _, _, _, _, _, _, _, _, h, _ => by cases h
  | .int _, .str _, _, _, _, _, _, _, _, _, _, _, _, _, h, _ => by cases h
  | .int _, .tup _, _, _, _, _, _, _, _, _, _, _, _, _, h, _ => by cases h
  | .str _, .non, _, _, _, _, _, _, _, _, _, _, _, _, h, _ => by cases h
  | .str _, .int _, _, _, _, _, _, _, _, _, _, _, _, _, h, _ => by cases h
  | .str _, .tup _, _, _, _, _, _, _, _, _, _, _, _, _, h, _ => by cases h
  | .tup _, .non, _, _, _, _, _, _, _, _, _, _, _, _, h, _ => by cases h
  | .tup _, .int _, _, _, _, _, _, _, _, _, _, _, _, _, h, _ => by cases h
  | .tup _, .str _, _, _, _, _, _, _, _, _, _, _, _, _, h, _ => by cases h
termination_by p q => 2 * sz p
decreasing_by all_goals (simp only [sz]; omega)
end
end K1

namespace K1
open PySem PySem.Spec PyProof.Rows L2

/-! ### how long a value's text is -/
theorem signs_256 : ∀ c ∈ signs.cps.toList, c < 16 ^ 8 := by decide +kernel
theorem none_len : (("None" : String) : Str).length = 4 := by decide +kernel
theorem log_small {i : Int} (h1 : -1000000000000000000000000000000000000000000000000000000000000 < i) (h2 : i < 1000000000000000000000000000000000000000000000000000000000000) : i.natAbs.log2 < 1920 := by
  have h : i.natAbs < 2 ^ 200 := by
    have e : (2 : Nat) ^ 200 = 1606938044258990275541962092341162602522202993782792835301376 := by decide +kernel
    rw [e]
    omega
  by_cases z : i.natAbs = 0
  · rw [z]
    decide
  · exact Nat.lt_of_lt_of_le ((Nat.log2_lt z).mpr h) (by decide)
mutual
theorem shown_le : ∀ p : PV, good p → (toD p).shown.length + 2 ≤ 1010 * sz p
  | .non, _ => by
    simp only [toD, PyData.shown, sz]
    rw [none_len]
    decide
  | .int i, h => by
    simp only [good] at h
    simp only [toD, PyData.shown, sz]
    have e := int_text_length_le10 (a := i) (k := 61) (by decide) (by
      have e : (10 : Nat) ^ 61 = 10000000000000000000000000000000000000000000000000000000000000 := by decide +kernel
      rw [e]
      omega)
    rw [PySem.ofString_length]
    omega
  | .str x, h => by
    simp only [good, goodS] at h
    simp only [toD, PyData.shown, sz]
    have e := StrLaws.reprText_len x fun c hc => signs_256 c (h.2 c hc)
    omega
  | .tup xs, h => by
    have e := shown_les xs (by simpa only [good] using h)
    simp only [toD, PyData.shown, sz]
    have t := fmt_text (PyData.shownAll (toDs xs))
    omega
theorem shown_les : ∀ xs : List PV, goods xs → piled (PyData.shownAll (toDs xs)) ≤ 1010 * szs xs
  | [], _ => by
    simp only [toDs, PyData.shownAll, piled_nil]
    exact Nat.zero_le _
  | x :: xs, h => by
    simp only [goods] at h
    have a := shown_le x h.1
    have b := shown_les xs h.2
    simp only [toDs, PyData.shownAll, piled_cons, szs]
    omega
end
mutual
theorem showable_toD : ∀ p : PV, good p → (toD p).showable = true
  | .non, _ => by simp only [toD, PyData.showable]
  | .int i, h => by
    simp only [good] at h
    simp only [toD, PyData.showable]
    exact decide_eq_true (log_small h.1 h.2)
  | .str x, _ => by simp only [toD, PyData.showable]
  | .tup xs, h => by
    simp only [toD, PyData.showable]
    exact showable_toDs xs (by simpa only [good] using h)
theorem showable_toDs : ∀ xs : List PV, goods xs → PyData.showableAll (toDs xs) = true
  | [], _ => by simp only [toDs, PyData.showableAll]
  | x :: xs, h => by
    simp only [goods] at h
    simp only [toDs, PyData.showableAll]
    rw [showable_toD x h.1, showable_toDs xs h.2]
    rfl
end
section
variable {X : Cx}
/-- repr of a plain tuple, where no repr is under way -/
def rRepT (K : PySem.W.Frag) : List V → Hp → VK → Prop := fun xs H Q => ∃ (v : V) (ps : List PV), xs = [v] ∧ Dp K H v (toD (.tup ps)) ∧ good (.tup ps) ∧ nest (.tup ps) ≤ 30 ∧ sz (.tup ps) ≤ 10000 ∧ Q (.str (toD (.tup ps)).shown) H
theorem cr_repT (hg : X.A.guards = some []) (hu : X.A.units + 64 < cLine) : CallR X (.builtin "repr") (rRepT X.K) := by
  intro pins s σ H xs us Q I r h
  obtain ⟨v, ps, rfl, hd, hgd, hn, hs, q⟩ := h
  obtain ⟨u, rfl, ru⟩ := vals1 r
  obtain ⟨a, ys, rfl, hq, hp⟩ := dp_tup hd
  obtain ⟨as, hr⟩ := Dp.reads I _ _ u hd ru
  obtain rfl : u = Value.ref a := ru
  have hz := shown_le _ hgd
  refine repr_of_reads' (h₀ := s.heap) hr (showable_toD _ hgd) (fun e => ?_) hg (by rw [dep_toD]; omega) (fun _ _ e => e) (fun h' t tk hk => ⟨.str _, H, I.kept (t' := tk) hk, ⟨t, rfl⟩, q⟩) (by rw [sizeLine_eq]; omega)
  rw [PyData.hasDict_of_canLay _ (can_toD _ hgd)] at e
  cases e
/-- repr of a truth value -/
def bTxt (b : Bool) : Str := if b = true then Str.ofString "True" else Str.ofString "False"
def rRepB : List V → Hp → VK → Prop := fun xs H Q => ∃ b : Bool, xs = [.bl b] ∧ Q (.str (bTxt b)) H
theorem cr_repB : CallR X (.builtin "repr") rRepB := by
  intro pins s σ H xs us Q I r h
  obtain ⟨b, rfl, q⟩ := h
  obtain ⟨u, rfl, ru⟩ := vals1 r
  obtain rfl : u = Value.bool b := ru
  exact P.repr_of_bool ⟨.str _, H, I.tok _, ⟨_, rfl⟩, q⟩
/-- < of two keys -/
def rLtK (K : PySem.W.Frag) : R2 := fun x y H Q => ∃ p q, Dp K H x (rkD p) ∧ Dp K H y (rkD q) ∧ good p ∧ good q ∧ nest p ≤ 20 ∧ nest q ≤ 20 ∧ Q (.bl (lt p q)) H
theorem op_ltK (hu : X.A.units + 64 < cLine) : OpR X (compareOp .Lt) (rLtK X.K) := by
  intro pins s σ H x y v u Q I rx ry h
  obtain ⟨p, q, hp, hq, gp, gq, np, nq, k⟩ := h
  obtain ⟨as, r1⟩ := Dp.reads I _ x v hp rx
  obtain ⟨bs, r2⟩ := Dp.reads I _ y u hq ry
  exact rank_lt p q X.A s v u as bs r1 r2 gp gq (by omega) (by omega) X.prog X.w _ _ ⟨.bl _, H, I, rfl, k⟩
end
end K1

namespace K1
open PySem PySem.Spec PyProof.Rows L2

/-! ### a key tells its value -/
theorem key_parts {h : Heap} {v : Value} {p : PV} {as : List Addr} (r : Reads h v (rkD p) as) : ∃ (a : Addr) (o : Obj) (xs : Array Value) (n : Nat) (x y : Value) (bs cs : List Addr),
    v = .ref a ∧ h.get? a = some o ∧ o.cls = .type "tuple" ∧ o.data = .seq xs n ∧ xs.toList = [x, y] ∧ Reads h x (.int (kcode p)) bs ∧ Reads h y (kbody p) cs := by
  rw [rkD_eq] at r
  cases r with
  | @tuple a o vs n _ _ h1 h2 h3 h4 =>
    cases e : vs.toList with
    | nil =>
      rw [e] at h4
      cases h4
    | cons x r =>
      rw [e] at h4
      cases h4 with
      | cons r1 h5 =>
        cases h5 with
        | cons r2 h6 =>
          cases h6
          exact ⟨a, o, vs, n, x, _, _, _, rfl, h1, h2, h3, e, r1, r2⟩
mutual
theorem key_one : ∀ (p q : PV) {h : Heap} {v : Value} {as bs : List Addr}, Reads h v (rkD p) as → Reads h v (rkD q) bs → p = q := by
  intro p q h v as bs r1 r2
  obtain ⟨a, o, xs, n, x, y, _, _, rfl, h1, _, h3, h4, c1, b1⟩ := key_parts r1
  obtain ⟨a', o', xs', n', x', y', _, _, e, k1, _, k3, k4, c2, b2⟩ := key_parts r2
  cases e
  rw [h1] at k1
  cases k1
  rw [h3] at k3
  injection k3 with k3 _
  subst k3
  have ex : [x, y] = [x', y'] := h4.symm.trans k4
  injection ex with ex1 ex2
  injection ex2 with ex2 _
  rw [← ex1] at c2
  rw [← ex2] at b2
  have hk : kcode p = kcode q := by
    cases c1
    generalize kcode q = m at c2
    cases c2
    rfl
  exact body_one p q hk b1 b2
termination_by p => 2 * sz p + 1
theorem body_one : ∀ (p q : PV), kcode p = kcode q → ∀ {h : Heap} {v : Value} {as bs : List Addr}, Reads h v (kbody p) as → Reads h v (kbody q) bs → p = q
  | .non, .non, _, _, _, _, _, _, _ => rfl
  | .int i, .int j, _, _, _, _, _, r1, r2 => by
    simp only [kbody] at r1 r2
    cases r1
    cases r2
    rfl
  | .str i, .str j, _, _, _, _, _, r1, r2 => by
    simp only [kbody] at r1 r2
    cases r1
    cases r2
    rfl
  | .tup xs, .tup ys, _, _, _, _, _, r1, r2 => by
    simp only [kbody] at r1 r2
    cases r1 with
    | tuple h1 h2 h3 h4 =>
      cases r2 with
      | tuple k1 k2 k3 k4 =>
        rw [h1] at k1
        cases k1
        rw [h3] at k3
        injection k3 with k3 _
        subst k3
        rw [rows_one xs ys h4 k4]
  | .non, .int _, h, _, _, _, _, _, _ => by cases h
  | .non, .str _, h, _, _, _, _, _, _ => by cases h
  | .non, .tup _, h, _, _, _, _, _, _ => by cases h
  | .int _, .non, h, _, _, _, _, _, _ => by cases h
  | .int _, .str _, h, _, _, _, _, _, _ => by cases h
  | .int _, .tup _, h, _, _, _, _, _, _ => by cases h
  | .str _, .non, h, _, _, _, _, _, _ => by cases h
  | .str _, .int _, h, _, _, _, _, _, _ => by cases h
  | .str _, .tup _, h, _, _, _, _, _, _ => by cases h
  | .tup _, .non, h, _, _, _, _, _, _ => by cases h
  | .tup _, .int _, h, _, _, _, _, _, _ => by cases h
  | .tup _, .str _, h, _, _, _, _, _, _ => by cases h
termination_by p => 2 * sz p
decreasing_by all_goals (simp only [sz]; omega)
theorem rows_one : ∀ (xs ys : List PV) {h : Heap} {vs : List Value} {as bs : List Addr}, ReadsAll h vs (rkDs xs) as → ReadsAll h vs (rkDs ys) bs → xs = ys
  | [], [], _, _, _, _, _, _ => rfl
  | [], y :: ys, _, _, _, _, r1, r2 => by
    simp only [rkDs] at r1 r2
    cases r1
    cases r2
  | x :: xs, [], _, _, _, _, r1, r2 => by
    simp only [rkDs] at r1 r2
    cases r2
    cases r1
  | x :: xs, y :: ys, _, _, _, _, r1, r2 => by
    simp only [rkDs] at r1 r2
    cases r1 with
    | cons a1 a2 =>
      cases r2 with
      | cons b1 b2 => rw [key_one x y a1 b1, rows_one xs ys a2 b2]
termination_by xs => 2 * szs xs + 2
decreasing_by all_goals (simp only [szs, List.length_cons]; first | omega | (have := sz_pos x; omega))
end

/-! ### values by their keys -/
/-- a key's value is fit to be sorted -/
def fit (m : Nat) (p : PV) : Prop := good p ∧ nest p ≤ m
noncomputable def pvKind (h : Heap) : PyProof.Rows.KeyKind where
  α := PV
  blt := lt
  irrefl := lt_irrefl
  trans := fun _ _ _ a b => lt_trans a b
  negTrans := fun _ b _ h => lt_neg b h
  total := fun _ _ a b => lt_total a b
  keyOf v := open Classical in if q : ∃ p, fit 20 p ∧ ∃ as, Reads h v (rkD p) as then some q.choose else none
  dflt := PV.non
theorem pvKind_some {h : Heap} {v : Value} {p : PV} {as : List Addr} (hp : fit 20 p) (r : Reads h v (rkD p) as) : (pvKind h).keyOf v = some p := by
  have q : ∃ p, fit 20 p ∧ ∃ as, Reads h v (rkD p) as := ⟨p, hp, as, r⟩
  have e : (pvKind h).keyOf v = some q.choose := by
    show (open Classical in if q : ∃ p, fit 20 p ∧ ∃ as, Reads h v (rkD p) as then some q.choose else none) = _
    exact dif_pos q
  obtain ⟨_, as', h2⟩ := q.choose_spec
  rw [e, key_one _ _ h2 r]
theorem pvKind_inv {h : Heap} {v : Value} {p : PV} (e : (pvKind h).keyOf v = some p) : fit 20 p ∧ ∃ as, Reads h v (rkD p) as := by
  by_cases q : ∃ p, fit 20 p ∧ ∃ as, Reads h v (rkD p) as
  · have e' : (pvKind h).keyOf v = some q.choose := by
      show (open Classical in if q : ∃ p, fit 20 p ∧ ∃ as, Reads h v (rkD p) as then some q.choose else none) = _
      exact dif_pos q
    rw [e'] at e
    rw [← Option.some.inj e]
    exact q.choose_spec
  · have e' : (pvKind h).keyOf v = none := by
      show (open Classical in if q : ∃ p, fit 20 p ∧ ∃ as, Reads h v (rkD p) as then some q.choose else none) = _
      exact dif_neg q
    rw [e'] at e
    cases e
section
variable {prog : Program} {w : World} {A : Around} {s : Shared}
theorem key_less {a b : Value} {p q : PV} {as bs : List Addr} {Q : Bool → Shared → Prop} {E : Value → Shared → Prop} (ra : Reads s.heap a (rkD p) as) (rb : Reads s.heap b (rkD q) bs) (hp : fit 20 p) (hq : fit 20 q) (hu : A.units + 100 < cLine)
    (h : Q (lt p q) s) : wpAny (model prog w) A (keyLt' (tuples' true) a b) Q E s := by
  obtain ⟨a', o, xs, n, x, y, c1, c2, rfl, h1, _, h3, h4, x1, y1⟩ := key_parts ra
  obtain ⟨b', o', xs', n', x', y', d1, d2, rfl, k1, _, k3, k4, x2, y2⟩ := key_parts rb
  have s1 : xs.size = 2 := by rw [← Array.length_toList, h4]; rfl
  have s2 : xs'.size = 2 := by rw [← Array.length_toList, k4]; rfl
  refine PySem.W.kat_lt h1 h3 k1 k3 ?_
  rw [h4, k4, s1, s2]
  show PySem.W.KatLex prog w A true false Q [(x, x'), (y, y')] 0 s
  have dp := dep_rkD p
  rw [rkD_eq, dep_two] at dp
  have np := hp.2
  have nq := hq.2
  refine PySem.W.kat_cons (SeqAt.eqAt_reads _ _ A s x x' _ _ x1 x2 (by simp only [PyData.canLay0]) (by simp only [PyData.canLay0]) (by simp only [PyData.depth]; omega) prog w _ _ ?_)
  by_cases hk : kcode p = kcode q
  · have e0 : PyData.eqv (.int (kcode p)) (.int (kcode q)) = true := by simp [PyData.eqv, hk]
    rw [e0]
    refine PySem.W.kat_yes (PySem.W.kat_cons (SeqAt.eqAt_reads _ _ A s y y' _ _ y1 y2 (kbody_can hp.1) (kbody_can hq.1) (by omega) prog w _ _ ?_))
    rw [eq_body hk]
    cases c : isEq (cmp p q) with
    | true =>
      rw [isEq_iff.mp c, lt_irrefl] at h
      exact PySem.W.kat_yes (PySem.W.kat_nil h)
    | false =>
      refine PySem.W.kat_no (PySem.W.kat_one _ _ ?_)
      exact body_lt p q A s y y' _ _ y1 y2 hp.1 hq.1 (by omega) (by omega) hk c prog w _ _ h
  · have e0 : PyData.eqv (.int (kcode p)) (.int (kcode q)) = false := by simp [PyData.eqv, hk]
    rw [e0]
    refine PySem.W.kat_no ?_
    rw [lt_code hk] at h
    generalize kcode p = i at *
    generalize kcode q = j at *
    cases x1
    cases x2
    exact PyProof.Rows.oneLt_any_int h
theorem keys_sort {ks : List Value} {ps : List PV} (e : PySem.W.EachIs (fun v p => fit 20 p ∧ ∃ as, Reads s.heap v (rkD p) as) ks ps) (hu : A.units + 100 < cLine) : PySem.W.SortsAt prog w A s (pvKind s.heap) ks := by
  refine ⟨fun v hv => ?_, tuples' true, ?_, fun h2 E Q hq => ?_⟩
  · obtain ⟨p, _, hp, as, r⟩ := e.left v hv
    exact ⟨p, pvKind_some hp r⟩
  · intro E x y a b Q ha hb hq
    obtain ⟨f1, as, r1⟩ := pvKind_inv ha
    obtain ⟨f2, bs, r2⟩ := pvKind_inv hb
    exact key_less r1 r2 f1 f2 hu hq
  · have firsts : ∀ {ks : List Value} {ps : List PV}, PySem.W.EachIs (fun v p => fit 20 p ∧ ∃ as, Reads s.heap v (rkD p) as) ks ps → ∃ fs, PySem.W.KatTups s.heap ks fs ∧ fs.length = ks.length ∧ ∀ f ∈ fs, ∃ i t, f = Value.int i t := by
      intro ks ps e
      induction e with
      | nil => exact ⟨[], PySem.W.KatTups.nil, rfl, fun f hf => absurd hf List.not_mem_nil⟩
      | cons h t ih =>
        obtain ⟨_, as, r⟩ := h
        obtain ⟨fs, g1, g2, g3⟩ := ih
        obtain ⟨a, o, xs, n, x, y, _, _, rfl, h1, h2, h3, h4, x1, _⟩ := key_parts r
        have hx : xs[0]? = some x := by
          rw [← Array.getElem?_toList, h4]
          rfl
        refine ⟨x :: fs, PySem.W.KatTups.cons h1 h2 h3 hx g1, by rw [List.length_cons, List.length_cons, g2], fun f hf => ?_⟩
        rcases List.mem_cons.mp hf with q | hf
        · subst q
          generalize kcode _ = i at x1
          cases x1
          exact ⟨_, _, rfl⟩
        · exact g3 f hf
    obtain ⟨fs, g1, g2, g3⟩ := firsts e
    refine PySem.W.kat_kind (T := .type "int") g1 (by omega) (fun f hf => ?_) (by decide) hq
    obtain ⟨i, t, rfl⟩ := g3 f hf
    exact PySem.W.Looks.of_pure rfl
end
end K1

namespace K1
open PySem PySem.Spec PyProof.Rows L2

/-- what the law's key promises -/
def spRank (K : PySem.W.Frag) (m : Nat) : Sp := fun vs H Q _ => ∃ (v : V) (p : PV), vs = [v] ∧ Dp K H v (toD p) ∧ good p ∧ nest p ≤ m ∧ sz p ≤ 1000 ∧ ∀ (x : V) (H' : Hp), Same H H' → Dp K H' x (rkD p) → Q x H'
section
variable {X : Cx} {pins : List (Addr × Obj)} {σ : L2.St} {H : Hp} {s : Shared} {n m : Nat} {f : Addr} {fd : FuncData} {ps : List Str}
/-- an object that is not tracked yet is tracked from now on -/
theorem adopt {a : Addr} {o : HO} (I : Inv X pins σ H s) (hf : FpOk X pins H a) (new : ObjOk X.prog X.w (upd H a o) s.heap a o) : Inv X pins σ (upd H a o) s := by
  have hn := hf.1
  refine I.step (h' := s.heap) (g' := s.gens) (t' := s.toks) (d' := s.drawn) (ch := [a]) (fun b hb => ?_) (fun b ob _ _ _ e _ => e) (fun b ob _ _ _ e _ => ⟨ob.slots, e⟩) (fun b ob hb e nb => ?_) (fun b ob _ e => ⟨ob, e⟩)
    (fun b xs e => ?_) (fun b ob u e => ?_) (fun b q e => ⟨#[], ?_⟩) (fun mm hm => hm) (fun b u e => ?_) I.bare
  · have e : b = a := by simpa using hb
    subst e
    exact ⟨hf.2.2.2.1, hf.2.1, hf.2.2.2.2.1, hf.2.2.2.2.2⟩
  · have ne : b ≠ a := fun z => hb (by simp [z])
    rw [upd_ne ne]
    exact nb
  · rw [upd_ne (ne_of_none e hn)]
    exact e
  · rw [upd_ne (ne_of_none e hn)]
    exact e
  · rw [upd_ne (ne_of_none e hn), e]
    simp
  · by_cases ne : b = a
    · subst ne
      rw [upd_same] at e
      cases e
      exact new
    · rw [upd_ne ne] at e
      refine (I.hok b u e).stay (fun _ _ _ q => q) (fun c q => ?_) fun c xs q => ?_
      · rw [upd_ne (ne_of_none q hn)]
        exact q
      · rw [upd_ne (ne_of_none q hn)]
        exact q
/-- the key's def, called from within a built-in -/
theorem run_key {A1 : Around} {v : V} {u : Value} {p : PV} (F : FnOk X.prog X.w X.K X.mg X.base CX0 n f fd ps (spRank X.K m)) (hb : Binds X.K fd ps []) (I : Inv X pins σ H s) (fr : A1.frames = X.A.frames) (hr : Room n A1) (r : RelV v u)
    (hd : Dp X.K H v (toD p)) (hg : good p) (hn : nest p ≤ m) (hs : sz p ≤ 1000) :
    wpAny (model X.prog X.w) A1 (call (.ref f) [u]) (fun z s' => ∃ (x : V) (H' : Hp), Inv X pins σ H' s' ∧ RelV x z ∧ Same H H' ∧ Dp X.K H' x (rkD p)) (fun _ _ => False) s := by
  have sp : spRank X.K m [v] H (fun x H' => Same H H' ∧ Dp X.K H' x (rkD p)) E0 := ⟨v, p, rfl, hd, hg, hn, hs, fun x H' a b => ⟨a, b⟩⟩
  have e0 : Env0 X.prog X.w X.K X.mg X.base A1 X.stack s H := by
    have e := I.env0
    exact ⟨fr.trans e.frames, e.mod, e.bs, e.bsz, e.funs, e.frf, e.hok, e.bare⟩
  have hl : ([u] ++ ([] : List Value)).length = ps.length := F.len _ _ _ _ sp
  have bd : BindsTo s fd ⟨[u], []⟩ (ps.zip [u]) := hb s [u] I.kIn hl
  refine wpAny_call (codeAny_mono (F.run A1 X.stack s H ⟨[u], []⟩ [u] [v] _ E0 hr e0 bd (.cons r .nil) sp) fun z s' hq => ?_)
  cases z with
  | error e => exact False.elim hq
  | ok fl =>
    cases fl with
    | ret w =>
      obtain ⟨x, H', I', rx, q1, q2⟩ := I.after hq
      exact ⟨x, H', I', rx, q1, q2⟩
    | next => exact False.elim hq
    | brk => exact False.elim hq
    | cont => exact False.elim hq
theorem reads_keys {h : Heap} : ∀ {ks : List Value} {ps : List PV} {as : List Addr}, ReadsAll h ks (rkDs ps) as → (∀ p ∈ ps, fit 20 p) → PySem.W.EachIs (fun v p => fit 20 p ∧ ∃ as, Reads h v (rkD p) as) ks ps
  | _, [], _, r, _ => by
    simp only [rkDs] at r
    cases r
    exact .nil
  | _, p :: ps, _, r, h => by
    simp only [rkDs] at r
    cases r with
    | cons r1 r2 => exact .cons ⟨h p (by simp), _, r1⟩ (reads_keys r2 fun q hq => h q (by simp [hq]))
theorem rks_len {K : PySem.W.Frag} {H : Hp} {vs : List V} {ps : List PV} (h : DpAll K H vs (rkDs ps)) : vs.length = ps.length := by
  rw [dpa_len h, rkDs_map, List.length_map]
theorem rks_snoc {K : PySem.W.Frag} {H : Hp} {vs : List V} {ps : List PV} {v : V} {p : PV} (h : DpAll K H vs (rkDs ps)) (g : Dp K H v (rkD p)) : DpAll K H (vs ++ [v]) (rkDs (ps ++ [p])) := by
  have e : rkDs (ps ++ [p]) = rkDs ps ++ [rkD p] := by rw [rkDs_map, rkDs_map, List.map_append]; rfl
  rw [e]
  exact dpa_app h (.cons g .nil)
/-- items, what they stand for -/
theorem items_each {K : PySem.W.Frag} {H H' : Hp} (t : Tups H H') : ∀ {us : List Value} {vs : List V} {ps : List PV}, Vals vs us → DpAll K H vs (toDs ps) → PySem.W.EachIs (fun (u : Value) (b : V × PV) => RelV b.1 u ∧ Dp K H' b.1 (toD b.2)) us (vs.zip ps)
  | _, _, [], r, h => by
    simp only [toDs] at h
    cases h
    cases r
    exact .nil
  | _, _, p :: ps, r, h => by
    simp only [toDs] at h
    cases h with
    | cons h1 h2 =>
      cases r with
      | cons r1 r2 => exact .cons ⟨r1, dp_tups t p h1⟩ (items_each t r2 h2)
theorem keys_each {h : Heap} : ∀ {ks : List Value} {vs : List V} {ps : List PV}, vs.length = ps.length → PySem.W.EachIs (fun v p => fit 20 p ∧ ∃ as, Reads h v (rkD p) as) ks ps → PySem.W.EachIs (fun v (b : V × PV) => (pvKind h).keyOf v = some b.2) ks (vs.zip ps)
  | _, [], _, _, .nil => .nil
  | _, _ :: _, _ :: _, e, .cons ⟨f, _, r⟩ t => .cons (pvKind_some f r) (keys_each (Nat.succ.inj e) t)
  | _, _ :: _, [], e, _ => by cases e
  | _, [], _ :: _, e, _ => by cases e
theorem out_vals {K : PySem.W.Frag} {H : Hp} : ∀ {us : List Value} {bs : List (V × PV)}, PySem.W.EachIs (fun (u : Value) (b : V × PV) => RelV b.1 u ∧ Dp K H b.1 (toD b.2)) us bs → Vals (bs.map (·.1)) us ∧ DpAll K H (bs.map (·.1)) (toDs (bs.map (·.2)))
  | _, _, .nil => ⟨.nil, by simp only [List.map_nil, toDs]; exact .nil⟩
  | _, _, .cons h t => by
    obtain ⟨a, b⟩ := out_vals t
    refine ⟨.cons h.1 a, ?_⟩
    simp only [List.map_cons, toDs]
    exact .cons h.2 b

/-- sorted(xs, key=the law's key) -/
def rSortK (K : PySem.W.Frag) (f : Addr) (m : Nat) : List V → List V → Hp → VK → Prop := fun xs zs H Q => ∃ (l : Addr) (vs : List V) (ps : List PV), xs = [.ref l] ∧ zs = [.ref f] ∧ SqL K H l vs ∧ DpAll K H vs (toDs ps) ∧
  (∀ p ∈ ps, good p ∧ nest p ≤ m ∧ sz p ≤ 1000) ∧ ps.length ≤ 1000 ∧ m ≤ 20 ∧
  ∀ (out : List V) (os : List PV) (p : Addr) (H' : Hp), Same H H' → H p = none → H' p = some (.lst out) → DpAll K H' out (toDs os) → Up os → os.Perm ps → Q (.ref p) H'
theorem cr_sortK (F : FnOk X.prog X.w X.K X.mg X.base CX0 n f fd ps (spRank X.K m)) (hr : Room (n + 2) X.A) (hb : Binds X.K fd ps []) : CallRK X (.builtin "sorted") [Str.ofString "key"] (rSortK X.K f m) := by
  intro pins s σ H xs zs us ws Q I r rz h
  obtain ⟨l, vs, qs, rfl, rfl, hl, hd, hfit, hlen, hm, q⟩ := h
  obtain rfl := Vals.ref1 r
  obtain ⟨w1, rfl, e1⟩ := vals1 rz
  obtain rfl : w1 = Value.ref f := e1
  obtain ⟨its, rv, pl, hz⟩ := I.list hl
  have hitl : its.length = qs.length := by rw [← rv.length, dps_len hd]
  have hbig : its.length ≤ sizeLine := by rw [hitl, sizeLine_eq]; omega
  refine PySem.W.sorted_of_sort pl.isList hbig (ksk_s1 _ _) (fun _ => ksk_l1 _ _) fun E' => ?_
  show wpAny _ _ (Builtin.«list.sort» ⟨[.ref (s.heap.objs.size + 1)], [(Str.ofString "key", .ref f)]⟩) _ _ _
  rw [ksk_t1]
  generalize ha : s.heap.objs.size + 1 = a
  have ho := PySem.W.copyHeap_at s.heap its
  rw [ha] at ho
  obtain ⟨e1, ho1⟩ : ∃ e1, ((PySem.W.copyHeap s.heap its).update a (Obj.mapSeq fun _ => (#[] : Array Value))).get? a = some (seqObj "list" #[] e1) := ⟨_, get?_update_seq ho fun _ => #[]⟩
  unfold ksk_tree
  refine wpAny_bind (listItems_at ho rfl ?_)
  refine wpAny_bind (listUpdate_at ho rfl ?_ (by rw [List.size_toArray]; exact hbig) (Nat.zero_le _))
  refine wpAny_bind (seqEpoch_at ho1 rfl ?_)
  refine wpAny_bind (wpAny_newTuple ?_ (by show its.length ≤ _; exact hbig))
  refine wpAny_bind (wpAny_newList ?_ (Nat.zero_le _))
  refine wpAny_holding ?_
  have hA : ∃ hA : Heap, hA = ((((PySem.W.copyHeap s.heap its).update a (Obj.mapSeq fun _ => (#[] : Array Value))).push (seqObj "tuple" its.toArray 0)).push (seqObj "list" #[] 0)) := ⟨_, rfl⟩
  obtain ⟨hA, ehA⟩ := hA
  show wpAny _ _ (ksk_rest a (.ref f) false its.toArray e1 (.ref (((PySem.W.copyHeap s.heap its).update a (Obj.mapSeq fun _ => (#[] : Array Value))).push (seqObj "tuple" its.toArray 0)).objs.size)) _ _ { s with heap := ((((PySem.W.copyHeap s.heap its).update a (Obj.mapSeq fun _ => (#[] : Array Value))).push (seqObj "tuple" its.toArray 0)).push (seqObj "list" #[] 0)) }
  generalize hkS : (((PySem.W.copyHeap s.heap its).update a (Obj.mapSeq fun _ => (#[] : Array Value))).push (seqObj "tuple" its.toArray 0)).objs.size = kS
  rw [← ehA]
  -- the two lists of the sort's own
  have gk : hA.get? kS = some (seqObj "list" #[] 0) := by
    rw [ehA, ← hkS]
    exact Heap.get?_push_size _ rfl
  have ga : hA.get? a = some (seqObj "list" #[] e1) := by
    rw [ehA]
    exact Heap.get?_push_of_some _ (Heap.get?_push_of_some _ ho1)
  have szC : (PySem.W.copyHeap s.heap its).objs.size = s.heap.objs.size + 2 := by
    unfold PySem.W.copyHeap
    rw [size_push', Heap.size_update, size_push']
  have hka : kS ≠ a := by
    rw [← hkS, size_push', Heap.size_update, szC, ← ha]
    omega
  have ka : s.heap.objs.size ≤ a := by omega
  have kk : s.heap.objs.size ≤ kS := by
    rw [← hkS, size_push', Heap.size_update, szC]
    omega
  have old : ∀ b o, s.heap.get? b = some o → hA.get? b = some o := fun b o e => by
    rw [ehA]
    have hb : b ≠ a := Nat.ne_of_lt (Nat.lt_of_lt_of_le (Heap.lt_size e) ka)
    exact Heap.get?_push_of_some _ (Heap.get?_push_of_some _ ((Heap.get?_update_ne _ _ _ _ hb).trans (PySem.W.copyHeap_old e)))
  have fa : FpOk X pins H a := I.fpOk ka (I.hok.fresh ka)
  have fk : FpOk X pins H kS := I.fpOk kk (I.hok.fresh kk)
  have I2 : Inv X pins σ H { s with heap := hA } := I.kept (t' := s.toks) old
  -- pins may be put and taken
  have put : ∀ {pn : List (Addr × Obj)} {Hx : Hp} {sx : Shared} {b : Addr} {xs : Array Value} {e : Nat}, Inv X pn σ Hx sx → FpOk X pn Hx b → sx.heap.get? b = some (seqObj "list" xs e) → Inv X ((b, seqObj "list" xs e) :: pn) σ Hx sx := fun {pn Hx sx b xs e} J fb gb =>
    J.pins_of fun p hp => by
      rcases List.mem_cons.mp hp with rfl | hp
      · exact ⟨gb, fb.1, fb.2.1, fb.2.2.1, fun v => by intro z; cases z⟩
      · exact J.pin p (List.mem_append_right _ hp)
  have take : ∀ {pn : List (Addr × Obj)} {Hx : Hp} {sx : Shared} {pr : Addr × Obj}, Inv X (pr :: pn) σ Hx sx → Inv X pn σ Hx sx := fun {pn Hx sx pr} J => J.pins_of fun p hp => J.pin p (List.mem_append_right _ (List.mem_cons_of_mem _ hp))
  have again : ∀ {pn : List (Addr × Obj)} {Hx : Hp} {b : Addr}, FpOk X pins H b → Hx b = none → (∀ p ∈ pn, p ∈ pins ∨ p.1 ≠ b) → FpOk X pn Hx b := fun {pn Hx b} fb hn hp =>
    ⟨hn, fb.2.1, fb.2.2.1, fb.2.2.2.1, fb.2.2.2.2.1, fun p h => by
      rcases List.mem_append.mp h with h | h
      · exact fb.2.2.2.2.2 p (List.mem_append_left _ h)
      · rcases hp p h with h | h
        · exact fb.2.2.2.2.2 p (List.mem_append_right _ h)
        · exact h⟩
  have I3 : Inv X ((kS, seqObj "list" #[] 0) :: (a, seqObj "list" #[] e1) :: pins) σ H { s with heap := hA } :=
    put (put I2 fa ga) (again fk fk.1 fun p hp => by
      rcases List.mem_cons.mp hp with rfl | hp
      · exact .inr (Ne.symm hka)
      · exact .inl hp) gk
  unfold ksk_rest
  refine wpAny_bind (wpAny_rule ?_)
  first
    | rw [List.forIn_toArray]
    | (rw [← Array.forIn_toList]; simp only [List.toList_toArray])
  refine wpAny_bind (ksk_fold (fun i t => ∃ (Hi : Hp) (kA : Array Value) (e : Nat) (ks : List V), Inv X ((kS, seqObj "list" kA e) :: (a, seqObj "list" #[] e1) :: pins) σ Hi t ∧ Same H Hi ∧ Vals ks kA.toList ∧ DpAll X.K Hi ks (rkDs (qs.take i))) its 0 _
    ⟨H, #[], 0, [], I3, Same.refl H, .nil, by rw [List.take_zero]; simp only [rkDs]; exact .nil⟩ ?step ?done)
  case step =>
    rintro j x t hx ⟨Hi, kA, e, ks, J, sm, rk, dk⟩
    simp only [Nat.zero_add] at dk ⊢
    have hj : j < its.length := (List.getElem?_eq_some_iff.mp hx).1
    have hjv : j < vs.length := by rw [rv.length]; exact hj
    obtain ⟨u, hu, ru⟩ := rv.get (List.getElem?_eq_getElem hjv)
    obtain rfl : x = u := Option.some.inj (hx.symm.trans hu)
    obtain ⟨p, hp, dp⟩ := dps_get hd (List.getElem?_eq_getElem hjv)
    obtain ⟨gp, np, zp⟩ := hfit p (List.mem_of_getElem? hp)
    have dpi : Dp X.K Hi vs[j] (toD p) := dp_tups (Tups.same sm) p dp
    have rm : Room n X.A.in1.in1 := Room.in1 (Room.in1 hr)
    refine wpAny_bind (wpAny_attempt (wpAny_mono (run_key (A1 := X.A.in1.in1) F hb J rfl rm ru dpi gp np zp) (fun z t2 hz2 => ?_) fun _ _ hF => hF.elim))
    obtain ⟨y, H2, J2, ry, sm2, dy⟩ := hz2
    try dsimp only
    have pk := J2.pin (kS, seqObj "list" kA e) (List.mem_append_right _ (.head _))
    have lk : kA.size = j := by
      rw [← Array.length_toList, ← rk.length, rks_len dk, List.length_take]
      omega
    have s1 := Heap.SameBut.update t2.heap kS (Obj.mapSeq (·.push z))
    obtain ⟨c2, hc2⟩ : ∃ c2, (t2.heap.update kS (Obj.mapSeq (·.push z))).get? kS = some (seqObj "list" (kA.push z) c2) := ⟨_, get?_update_seq pk.1 (·.push z)⟩
    refine wpAny_bind (listUpdate_at pk.1 rfl ?_ (by rw [lk]; omega) (by rw [Array.size_push, lk]; omega))
    refine wpAny_pure ⟨rfl, H2, kA.push z, c2, ks ++ [y], ?_, sm.trans sm2, ?_, ?_⟩
    · have fk2 : FpOk X ((a, seqObj "list" #[] e1) :: pins) H2 kS := again fk pk.2.1 fun p hp => by
        rcases List.mem_cons.mp hp with rfl | hp
        · exact .inr (Ne.symm hka)
        · exact .inl hp
      have J3 := take J2
      have J4 := J3.turned (t' := t2.toks) (it := kS) (h' := t2.heap.update kS (Obj.mapSeq (·.push z))) (fun b o hb e => (s1.2 b hb).trans e) fk2.1 fk2.2.1 fk2.2.2.2.1 fk2.2.2.2.2.1 fk2.2.2.2.2.2
      exact put J4 fk2 hc2
    · have e3 : (kA.push z).toList = kA.toList ++ [z] := by simp
      rw [e3]
      exact rk.append (.cons ry .nil)
    · have e4 : qs.take (j + 1) = qs.take j ++ [p] := by rw [List.take_add_one, hp]; rfl
      rw [e4]
      exact rks_snoc (rks_tups (Tups.same sm2) _ dk) dy
  case done =>
    rintro t ⟨Hi, kA, e, ks, J, sm, rk, dk⟩
    have e3 : qs.take (0 + its.length) = qs := List.take_of_length_le (by omega)
    rw [e3] at dk
    have pk := J.pin (kS, seqObj "list" kA e) (List.mem_append_right _ (.head _))
    have pa := J.pin (a, seqObj "list" #[] e1) (List.mem_append_right _ (.tail _ (.head _)))
    try dsimp only
    refine wpAny_bind (listItems_at pk.1 rfl ?_)
    obtain ⟨as, hR⟩ := Dp.readsAll J _ ks kA.toList dk rk
    have hfit2 : ∀ p ∈ qs, fit 20 p := fun p hp => ⟨(hfit p hp).1, Nat.le_trans (hfit p hp).2.1 hm⟩
    have hke := reads_keys hR hfit2
    have hu : X.A.in1.in1.units + 100 < cLine := by
      have := hr.un
      show X.A.units + 1 + 1 + 100 < cLine
      omega
    have hks : kA.size = its.length := by
      rw [← Array.length_toList, ← rk.length, rks_len dk, hitl]
    refine PySem.W.keyH_end (κ := pvKind t.heap) (h₁ := PySem.W.hideAll t.heap [kS]) (s := t) (a := a) (kS := kS) (b := false) (vs := its) (fun b o hb q => ?_) (PySem.W.hideAll_none _ (by simp)) pk.1 pa.1 hka (keys_sort hke hu) hks hbig fun h' tk c kp ga' => ⟨rfl, ?_⟩
    · exact PySem.W.of_hideAll _ q
    · have J1 : Inv X pins σ Hi t := take (take J)
      have keep : ∀ b o, b ∉ [kS, a] → t.heap.get? b = some o → h'.get? b = some o := fun b o hb e => by
        simp only [List.mem_cons, List.not_mem_nil, or_false, not_or] at hb
        exact kp b o hb.2 (PySem.W.hideAll_get _ e (by simpa using hb.1))
      have fk3 : FpOk X pins Hi kS := again fk pk.2.1 fun p hp => .inl hp
      have fa3 : FpOk X pins Hi a := again fa pa.2.1 fun p hp => .inl hp
      have J2 : Inv X pins σ Hi { t with heap := h', toks := tk } := J1.turnedL (t' := tk) (ch := [kS, a]) keep fun b hb => by
        rcases List.mem_cons.mp hb with rfl | hb
        · exact fk3
        · rw [List.mem_singleton.mp hb]
          exact fa3
      have hE := PySem.W.sortVals_each (κ := pvKind t.heap) (rev := false) (fun b : V × PV => b.2) (items_each (Tups.same sm) rv hd) (keys_each (dps_len hd) hke)
      obtain ⟨ov, od⟩ := out_vals hE
      have hperm := List.mergeSort_perm (vs.zip qs) (PySem.W.sortLe (pvKind t.heap).toKeyOrd false fun b : V × PV => b.2)
      have zl : (vs.zip qs).map (·.2) = qs := List.map_snd_zip (by rw [dps_len hd]; exact Nat.le_refl _)
      have holen : ((vs.zip qs).mergeSort (PySem.W.sortLe (pvKind t.heap).toKeyOrd false fun b : V × PV => b.2)).length ≤ sizeLine := by
        rw [hperm.length_eq, List.length_zip, sizeLine_eq]
        omega
      have tup : Tups Hi (upd Hi a (.lst (((vs.zip qs).mergeSort (PySem.W.sortLe (pvKind t.heap).toKeyOrd false fun b : V × PV => b.2)).map (·.1)))) := Tups.same (same_upd pa.2.1)
      have J3 := adopt (o := .lst (((vs.zip qs).mergeSort (PySem.W.sortLe (pvKind t.heap).toKeyOrd false fun b : V × PV => b.2)).map (·.1))) J2 fa3 ⟨by rw [List.length_map]; exact holen, _, c, ov, ga'⟩
      refine ⟨.ref a, _, J3, rfl, q _ _ a _ (sm.trans (same_upd pa.2.1)) fa.1 upd_same (dps_tups tup _ od) ?_ ?_⟩
      · have hp := PySem.W.sort_pairwise (PySem.W.sortLe_total (pvKind t.heap).toKeyOrd false fun b : V × PV => b.2) (vs.zip qs)
        unfold Up
        rw [List.pairwise_map]
        refine hp.imp fun {x y} h => ?_
        have h' : (!lt y.2 x.2) = true := h
        simpa using h'
      · have := hperm.map (·.2)
        rw [zl] at this
        exact this
end
end K1

namespace K1
open PySem PySem.Spec PyProof.Rows L2
theorem zip_nolen : typeLookup (.type "zip") "__len__" = pure none := am_miss_of_fast (by decide +kernel)
theorem zip_nohint : typeLookup (.type "zip") "__length_hint__" = pure none := am_miss_of_fast (by decide +kernel)
/-- a zip of two tuples ahead of its turn i -/
structure ZipAt (h : Heap) (z TI TO i1 i2 l1 l2 : Addr) (xs ys : Array Value) (i : Nat) : Prop where
  ti : IsPair h TI (.ref i1) (.ref i2)
  one : h.IsTupleIter i1 l1 i
  two : h.IsTupleIter i2 l2 i
  left : h.IsTuple l1 xs
  right : h.IsTuple l2 ys
  out : (IsZip h z TI TO .none ∧ ∃ a b, IsPair h TO a b) ∨ ∃ (T : Addr) (f : Bool) (oT : Obj), IsZipHeld h z TI TO T f ∧ h.get? T = some oT ∧ T ≠ z ∧ T ≠ TO ∧ T ≠ i1 ∧ T ≠ i2
section
variable {prog : Program} {w : World} {A : Around} {E : Value → Shared → Prop} {s : Shared} {z TI TO i1 i2 l1 l2 : Addr} {xs ys : Array Value} {i : Nat}
theorem ZipAt.type (Z : ZipAt s.heap z TI TO i1 i2 l1 l2 xs ys i) : s.TypeIs (.ref z) "zip" := by
  rcases Z.out with ⟨h, _⟩ | ⟨_, _, _, h, _⟩
  · exact ⟨_, h, rfl⟩
  · exact ⟨_, h, rfl⟩
/-- a list at S of our own may change -/
theorem ZipAt.keep {h h' : Heap} {S : Addr} (Z : ZipAt h z TI TO i1 i2 l1 l2 xs ys i) (n1 : z ≠ S) (n2 : TI ≠ S) (n3 : TO ≠ S) (n4 : i1 ≠ S) (n5 : i2 ≠ S) (n6 : l1 ≠ S) (n7 : l2 ≠ S) (k : ∀ b o, b ≠ S → h.get? b = some o → h'.get? b = some o)
    (kS : ∃ o, h'.get? S = some o) : ZipAt h' z TI TO i1 i2 l1 l2 xs ys i := by
  refine ⟨k _ _ n2 Z.ti, Z.one.at fun o e => k _ o n4 e, Z.two.at fun o e => k _ o n5 e, Z.left.at fun o e => k _ o n6 e, Z.right.at fun o e => k _ o n7 e, ?_⟩
  rcases Z.out with ⟨h1, a, b, h2⟩ | ⟨T, f, oT, h1, h2, r⟩
  · exact .inl ⟨k _ _ n1 h1, a, b, k _ _ n3 h2⟩
  · by_cases e : T = S
    · subst e
      obtain ⟨o, ho⟩ := kS
      exact .inr ⟨T, f, o, k _ _ n1 h1, ho, r⟩
    · exact .inr ⟨T, f, oT, k _ _ n1 h1, k _ _ e h2, r⟩
/-- next, while the pair given out is still there -/
theorem zipped_held {T : Addr} {f : Bool} {oT : Obj} {x y : Value} {Q : Option Value → Shared → Prop} (D : ZipApart z TI TO i1 i2 l1 l2) (hz : IsZipHeld s.heap z TI TO T f) (hT : s.heap.get? T = some oT)
    (hTI : IsPair s.heap TI (.ref i1) (.ref i2)) (h1 : s.heap.IsTupleIter i1 l1 i) (h2 : s.heap.IsTupleIter i2 l2 i) (hl1 : s.heap.IsTuple l1 xs) (hl2 : s.heap.IsTuple l2 ys) (hx : xs[i]? = some x) (hy : ys[i]? = some y)
    (hQ : ∀ h', IsZipHeld h' z TI TO T true → h'.IsTupleIter i1 l1 (i + 1) → h'.IsTupleIter i2 l2 (i + 1) → IsPair h' s.heap.objs.size x y → h'.objs.size = s.heap.objs.size + 1 →
      (∀ c o, c ≠ z → c ≠ i1 → c ≠ i2 → s.heap.get? c = some o → h'.get? c = some o) → Q (some (.ref s.heap.objs.size)) { s with heap := h' }) :
    wpAny (model prog w) A (pyNext (.ref z)) Q E s := by
  have ty : s.TypeIs (.ref z) "zip" := ⟨_, hz, rfl⟩
  unfold pyNext
  refine wpAny_bind (wpAny_attempt (wpAny_callSpecial?_slot (name := Str.ofString "__next__") ty F.slot_zip_next (wpAny_call_entry F.slot_zip_next ty F.entry_zip_next ?_ (F.args_zip_next_1 _))))
  show wpAny _ _ (field (.ref z) 2 >>= _) _ _ _
  refine wpAny_bind (wpAny_field hz rfl (x := .bool false) rfl ?_)
  show wpAny _ _ (field (.ref z) 3 >>= _) _ _ _
  refine wpAny_bind (wpAny_field hz rfl (x := .ref TI) rfl (wpAny_bind (wpAny_seqItems hTI rfl ?_)))
  show wpAny _ _ (Builtin.SmallTypes.ownedTupleIsFree (.ref z) >>= _) _ _ _
  refine wpAny_bind (wpAny_tupleHeld_zip hz hT fun g1 z1 k1 => ?_)
  simp only [Bool.false_eq_true, if_false]
  refine wpAny_bind ?_
  rw [← Array.forIn_toList]
  simp only [List.forIn_cons, List.forIn_nil]
  refine wpAny_bind (wpAny_bind (wpAny_holding ?_))
  show wpAny _ _ (Builtin.SmallTypes.nextOf (.ref i1) >>= _) _ _ _
  refine wpAny_bind (RZ.nextOf_tuple_item (s := { s with heap := g1 }) (h1.extBut k1.extBut D.i1z) (hl1.extBut k1.extBut D.l1z) hx fun g2 n1 k2 => wpAny_pure (wpAny_pure ?_))
  refine wpAny_bind (wpAny_bind (wpAny_holding ?_))
  show wpAny _ _ (Builtin.SmallTypes.nextOf (.ref i2) >>= _) _ _ _
  refine wpAny_bind (RZ.nextOf_tuple_item (s := { s with heap := g2 }) ((h2.extBut k1.extBut D.i2z).extBut k2.extBut D.i12.symm) ((hl2.extBut k1.extBut D.l2z).extBut k2.extBut D.l2i1) hy fun g3 n2 k3 => wpAny_pure (wpAny_pure (wpAny_pure ?_)))
  show wpAny _ _ (newTuple [x, y] >>= _) _ _ _
  refine wpAny_bind (wpAny_newTuple ?_)
  have sz : g3.objs.size = s.heap.objs.size := by rw [k3.1, k2.1, k1.1]
  have z3 : IsZipHeld g3 z TI TO T true := k3.extBut _ _ D.i2z.symm (k2.extBut _ _ D.i1z.symm z1)
  have hp : IsPair (g3.push { cls := .type "tuple", data := .seq #[x, y] }) g3.objs.size x y := Heap.get?_push_size _ rfl
  have hs : (g3.push { cls := .type "tuple", data := .seq #[x, y] }).objs.size = g3.objs.size + 1 := Heap.size_push ..
  have n13 : g3.IsTupleIter i1 l1 (i + 1) := n1.extBut k3.extBut D.i12
  refine wpAny_pure ⟨_, rfl, ?_⟩
  refine wpAny_pure ?_
  show Q (some (.ref g3.objs.size)) _
  rw [sz] at hp hs ⊢
  exact hQ _ (Heap.get?_push_of_some _ z3) (n13.at fun o e => Heap.get?_push_of_some _ e) (n2.at fun o e => Heap.get?_push_of_some _ e) hp hs fun c o c1 c2 c3 e =>
    Heap.get?_push_of_some _ (k3.extBut _ _ c3 (k2.extBut _ _ c2 (k1.extBut _ _ c1 e)))
theorem zipped_over {T : Addr} {f : Bool} {oT : Obj} {Q : Option Value → Shared → Prop} (hh : A.handled = none) (D : ZipApart z TI TO i1 i2 l1 l2) (hz : IsZipHeld s.heap z TI TO T f) (hT : s.heap.get? T = some oT)
    (hTI : IsPair s.heap TI (.ref i1) (.ref i2)) (h1 : s.heap.IsTupleIter i1 l1 i) (h2 : s.heap.IsTupleIter i2 l2 i) (hl1 : s.heap.IsTuple l1 xs) (hl2 : s.heap.IsTuple l2 ys) (hend : xs[i]? = none ∨ ys[i]? = none)
    (hQ : ∀ h', (∀ c o, c ≠ z → c ≠ i1 → c ≠ i2 → s.heap.get? c = some o → h'.get? c = some o) → Q none { s with heap := h' }) : wpAny (model prog w) A (pyNext (.ref z)) Q E s := by
  have ty : s.TypeIs (.ref z) "zip" := ⟨_, hz, rfl⟩
  have stop : ∀ {g : Heap} {e : Addr}, (∃ o, g.get? e = some o ∧ o.cls = .type "StopIteration") → (∀ c o, c ≠ z → c ≠ i1 → c ≠ i2 → s.heap.get? c = some o → g.get? c = some o) →
      wpAny (model prog w) A (do let b ← isInstance (.ref e) (.type "StopIteration"); if b = true then pure none else throw (.ref e)) Q E { s with heap := g } := fun {g e} he hk => by
    obtain ⟨o, ho, hc⟩ := he
    exact wpAny_bind (wpAny_isInstance (T := "StopIteration") (b := true) ⟨o, ho, hc⟩ isSubtype_stop (wpAny_pure (hQ _ hk)))
  unfold pyNext
  refine wpAny_bind (wpAny_attempt (wpAny_callSpecial?_slot (name := Str.ofString "__next__") ty F.slot_zip_next (wpAny_call_entry F.slot_zip_next ty F.entry_zip_next ?_ (F.args_zip_next_1 _))))
  show wpAny _ _ (field (.ref z) 2 >>= _) _ _ _
  refine wpAny_bind (wpAny_field hz rfl (x := .bool false) rfl ?_)
  show wpAny _ _ (field (.ref z) 3 >>= _) _ _ _
  refine wpAny_bind (wpAny_field hz rfl (x := .ref TI) rfl (wpAny_bind (wpAny_seqItems hTI rfl ?_)))
  show wpAny _ _ (Builtin.SmallTypes.ownedTupleIsFree (.ref z) >>= _) _ _ _
  refine wpAny_bind (wpAny_tupleHeld_zip hz hT fun g1 z1 k1 => ?_)
  simp only [Bool.false_eq_true, if_false]
  refine wpAny_bind ?_
  rw [← Array.forIn_toList]
  simp only [List.forIn_cons, List.forIn_nil]
  refine wpAny_bind (wpAny_bind (wpAny_holding ?_))
  show wpAny _ _ (Builtin.SmallTypes.nextOf (.ref i1) >>= _) _ _ _
  cases hx : xs[i]? with
  | none =>
    refine wpAny_bind (RZ.nextOf_tuple_end (s := { s with heap := g1 }) hh (h1.extBut k1.extBut D.i1z) (hl1.extBut k1.extBut D.l1z) hx fun g2 e k2 he => ?_)
    obtain ⟨o, ho, hc⟩ := he
    exact wpAny_bind (wpAny_isInstance (T := "StopIteration") (b := true) ⟨o, ho, hc⟩ isSubtype_stop (wpAny_pure (hQ _ fun c o c1 c2 _ x => k2 _ _ c2 (k1.extBut _ _ c1 x))))
  | some x =>
    have hy : ys[i]? = none := by
      rcases hend with q | q
      · rw [hx] at q
        cases q
      · exact q
    refine wpAny_bind (RZ.nextOf_tuple_item (s := { s with heap := g1 }) (h1.extBut k1.extBut D.i1z) (hl1.extBut k1.extBut D.l1z) hx fun g2 n1 k2 => wpAny_pure (wpAny_pure ?_))
    refine wpAny_bind (wpAny_bind (wpAny_holding ?_))
    show wpAny _ _ (Builtin.SmallTypes.nextOf (.ref i2) >>= _) _ _ _
    refine wpAny_bind (RZ.nextOf_tuple_end (s := { s with heap := g2 }) hh ((h2.extBut k1.extBut D.i2z).extBut k2.extBut D.i12.symm) ((hl2.extBut k1.extBut D.l2z).extBut k2.extBut D.l2i1) hy fun g3 e k3 he => ?_)
    obtain ⟨o, ho, hc⟩ := he
    exact wpAny_bind (wpAny_isInstance (T := "StopIteration") (b := true) ⟨o, ho, hc⟩ isSubtype_stop (wpAny_pure (hQ _ fun c o c1 c2 c3 x => k3 _ _ c3 (k2.extBut _ _ c2 (k1.extBut _ _ c1 x)))))
theorem zip_one {x y : Value} {Q : Option Value → Shared → Prop} (D : ZipApart z TI TO i1 i2 l1 l2) (Z : ZipAt s.heap z TI TO i1 i2 l1 l2 xs ys i) (hx : xs[i]? = some x) (hy : ys[i]? = some y)
    (hQ : ∀ h', ZipAt h' z TI TO i1 i2 l1 l2 xs ys (i + 1) → IsPair h' s.heap.objs.size x y → h'.objs.size = s.heap.objs.size + 1 → (∀ c o, c ≠ z → c ≠ TO → c ≠ i1 → c ≠ i2 → s.heap.get? c = some o → h'.get? c = some o) →
      Q (some (.ref s.heap.objs.size)) { s with heap := h' }) : wpAny (model prog w) A (pyNext (.ref z)) Q E s := by
  have low : ∀ {b : Addr} {o : Obj}, s.heap.get? b = some o → s.heap.objs.size ≠ b := fun e => Nat.ne_of_gt (Heap.lt_size e)
  obtain ⟨o1, e1, _⟩ := Z.one
  obtain ⟨o2, e2, _⟩ := Z.two
  rcases Z.out with ⟨h1, a, b, h2⟩ | ⟨T, f, oT, h1, h2, r1, r2, r3, r4⟩
  · refine RZ.pyNext_zipT_item D h1 Z.ti h2 Z.one Z.two Z.left Z.right hx hy fun h' a1 a2 a3 a4 a5 a6 a7 => ?_
    exact hQ h' ⟨a7 _ _ D.TIz D.TITO D.TIi1 D.TIi2 Z.ti, a3, a4, Z.left.at fun o e => a7 _ o D.l1z D.l1TO D.l1i1 D.l1i2 e, Z.right.at fun o e => a7 _ o D.l2z D.l2TO D.l2i1 D.l2i2 e,
      .inr ⟨s.heap.objs.size, false, _, a1, a5, low h1, low h2, low e1, low e2⟩⟩ a5 a6 a7
  · refine zipped_held D h1 h2 Z.ti Z.one Z.two Z.left Z.right hx hy fun h' a1 a3 a4 a5 a6 a7 => ?_
    exact hQ h' ⟨a7 _ _ D.TIz D.TIi1 D.TIi2 Z.ti, a3, a4, Z.left.at fun o e => a7 _ o D.l1z D.l1i1 D.l1i2 e, Z.right.at fun o e => a7 _ o D.l2z D.l2i1 D.l2i2 e,
      .inr ⟨T, true, oT, a1, a7 _ _ r1 r3 r4 h2, r1, r2, r3, r4⟩⟩ a5 a6 fun c o c1 _ c3 c4 e => a7 c o c1 c3 c4 e
theorem zip_end {Q : Option Value → Shared → Prop} (hh : A.handled = none) (D : ZipApart z TI TO i1 i2 l1 l2) (Z : ZipAt s.heap z TI TO i1 i2 l1 l2 xs ys i) (hend : xs[i]? = none ∨ ys[i]? = none)
    (hQ : ∀ h', (∀ c o, c ≠ z → c ≠ TO → c ≠ i1 → c ≠ i2 → s.heap.get? c = some o → h'.get? c = some o) → Q none { s with heap := h' }) : wpAny (model prog w) A (pyNext (.ref z)) Q E s := by
  rcases Z.out with ⟨h1, a, b, h2⟩ | ⟨T, f, oT, h1, h2, _⟩
  · exact RZ.pyNext_zipT_end hh D h1 Z.ti h2 Z.one Z.two Z.left Z.right hend hQ
  · exact zipped_over hh D h1 h2 Z.ti Z.one Z.two Z.left Z.right hend fun h' k => hQ h' fun c o c1 _ c3 c4 e => k c o c1 c3 c4 e
theorem zip_self {Q : Value → Shared → Prop} (Z : ZipAt s.heap z TI TO i1 i2 l1 l2 xs ys i) (h : Q (.ref z) s) : wpAny (model prog w) A (pyIter (.ref z)) Q E s := by
  have ty := Z.type
  refine wpAny_pyIter_slot ty F.slot_zip_iter (wpAny_call_entry F.slot_zip_iter ty F.entry_zip_iter ?_ (F.args_zip_iter_1 _))
  show wpAny _ _ (ret (.ref z)) _ _ s
  exact wpAny_pure ⟨_, rfl, "zip", _, ty, F.slot_zip_next.lookup, h⟩
end
end K1

namespace K1
open PySem PySem.Spec PyProof.Rows L2
/-- the pairs that were gathered so far -/
structure Gath (h : Heap) (S : Addr) (xs ys : Array Value) (ts : List Addr) : Prop where
  far : ∀ t ∈ ts, S < t
  nd : ts.Nodup
  pair : ∀ (j : Nat) (t : Addr), ts[j]? = some t → ∃ x y, xs[j]? = some x ∧ ys[j]? = some y ∧ IsPair h t x y
section
variable {prog : Program} {w : World} {A : Around} {E : Value → Shared → Prop} {s : Shared} {z TI TO i1 i2 l1 l2 S : Addr} {xs ys : Array Value}
theorem zip_gather {R : Result → Shared → Prop} (res : Value) (hh : A.handled = none) (D : ZipApart z TI TO i1 i2 l1 l2) (n1 : z < S) (n2 : TI < S) (n3 : TO < S) (n4 : i1 < S) (n5 : i2 < S) (n6 : l1 < S) (n7 : l2 < S) (hn : min xs.size ys.size ≤ sizeLine) {h₁ : Heap}
    (hR : ∀ h' tk acc c ts, (∀ b o, b ≠ S → b ≠ z → b ≠ TO → b ≠ i1 → b ≠ i2 → h₁.get? b = some o → h'.get? b = some o) → h'.get? S = some { cls := .type "list", dict := none, data := .seq acc c, slots := #[] } → ts.length = min xs.size ys.size → Gath h' S xs ys ts →
      acc.toList = ts.map Value.ref → R (.ok (.ret res)) { s with heap := h', toks := tk }) :
    ∀ (k i : Nat) (h : Heap) (tk c : Nat) (acc : Array Value) (ts : List Addr), min xs.size ys.size - i = k → i ≤ min xs.size ys.size → ZipAt h z TI TO i1 i2 l1 l2 xs ys i → (∀ b o, b ≠ S → b ≠ z → b ≠ TO → b ≠ i1 → b ≠ i2 → h₁.get? b = some o → h.get? b = some o) →
      h.get? S = some { cls := .type "list", dict := none, data := .seq acc c, slots := #[] } → acc.toList = ts.map Value.ref → ts.length = i → Gath h S xs ys ts →
      codeAny (model prog w) A (.builtin "list.extend.loop" ⟨[.ref S, .ref z, res], []⟩) R { s with heap := h, toks := tk } := by
  have m1 : z ≠ S := Nat.ne_of_lt n1
  have m3 : TO ≠ S := Nat.ne_of_lt n3
  have m4 : i1 ≠ S := Nat.ne_of_lt n4
  have m5 : i2 ≠ S := Nat.ne_of_lt n5
  have farz : ∀ {t : Addr}, S < t → t ≠ z ∧ t ≠ TO ∧ t ≠ i1 ∧ t ≠ i2 := fun ht => ⟨Nat.ne_of_gt (Nat.lt_trans n1 ht), Nat.ne_of_gt (Nat.lt_trans n3 ht), Nat.ne_of_gt (Nat.lt_trans n4 ht), Nat.ne_of_gt (Nat.lt_trans n5 ht)⟩
  intro k
  induction k with
  | zero =>
    intro i h tk c acc ts hk hi Z hkeep hS hacc hl G
    have hin : i = min xs.size ys.size := by omega
    refine codeAny_builtin F.entry_extend_loop ?_
    rw [Around.under_plainId F.plain_extend_loop _]
    show wpAny _ A.in1 (pyNext (.ref z) >>= _) _ _ _
    refine wpAny_bind (zip_end (s := { s with heap := h, toks := tk }) (A := A.in1) hh D Z ?_ fun h' he => ?_)
    · rcases Nat.le_total xs.size ys.size with q | q
      · exact .inl (Array.getElem?_eq_none (by rw [hin, Nat.min_eq_left q]; exact Nat.le_refl _))
      · exact .inr (Array.getElem?_eq_none (by rw [hin, Nat.min_eq_right q]; exact Nat.le_refl _))
    · refine wpAny_pure (hR h' tk acc c ts (fun b o a1 a2 a3 a4 a5 e => he b o a2 a3 a4 a5 (hkeep b o a1 a2 a3 a4 a5 e)) (he S _ m1.symm m3.symm m4.symm m5.symm hS) (by omega) ⟨G.far, G.nd, fun j t hj => ?_⟩ hacc)
      obtain ⟨x, y, hx, hy, hp⟩ := G.pair j t hj
      obtain ⟨f1, f2, f3, f4⟩ := farz (G.far t (List.mem_of_getElem? hj))
      exact ⟨x, y, hx, hy, he t _ f1 f2 f3 f4 hp⟩
  | succ k ih =>
    intro i h tk c acc ts hk hi Z hkeep hS hacc hl G
    have hlt : i < min xs.size ys.size := by omega
    have hx : xs[i]? = some (xs[i]'(by omega)) := Array.getElem?_eq_getElem (by omega)
    have hy : ys[i]? = some (ys[i]'(by omega)) := Array.getElem?_eq_getElem (by omega)
    have hsz : acc.size = i := by rw [← Array.length_toList, hacc, List.length_map, hl]
    refine codeAny_builtin F.entry_extend_loop ?_
    rw [Around.under_plainId F.plain_extend_loop _]
    show wpAny _ A.in1 (pyNext (.ref z) >>= _) _ _ _
    refine wpAny_bind (zip_one (s := { s with heap := h, toks := tk }) D Z hx hy fun h' Z' hp hz' hkp => ?_)
    dsimp only at hp hz' hkp ⊢
    have hS' := hkp S _ m1.symm m3.symm m4.symm m5.symm hS
    have hSl : S < h.objs.size := Heap.lt_size hS
    have up : ∀ b o, b ≠ S → h'.get? b = some o → (h'.update S (Obj.mapSeq (·.push (Value.ref h.objs.size)))).get? b = some o := fun b o hb e => (Heap.get?_update_other _ _ (Ne.symm hb)).trans e
    have newS := Heap.get?_update_self (Obj.mapSeq (·.push (Value.ref h.objs.size))) hS' rfl
    show wpAny _ A.in1 (updateSeq S (·.push (Value.ref h.objs.size)) >>= _) _ _ _
    refine wpAny_bind ?_
    refine wpAny_updateSeq hS' rfl (wpAny_pure ⟨plainId_quiet F.plain_extend_loop _, ih (i + 1) _ tk _ (acc.push (Value.ref h.objs.size)) (ts ++ [h.objs.size]) (by omega) hlt
      (Z'.keep m1 (Nat.ne_of_lt n2) m3 m4 m5 (Nat.ne_of_lt n6) (Nat.ne_of_lt n7) up ⟨_, newS⟩)
      (fun b o a1 a2 a3 a4 a5 e => up b o a1 (hkp b o a2 a3 a4 a5 (hkeep b o a1 a2 a3 a4 a5 e))) newS (by rw [Array.toList_push, hacc, List.map_append]; rfl) (by rw [List.length_append, hl]; rfl) ⟨?_, ?_, ?_⟩⟩) (by rw [hsz]; omega)
      (by show (acc.push (Value.ref h.objs.size)).size ≤ sizeLine + 1; rw [Array.size_push, hsz]; omega)
    · intro t ht
      rcases List.mem_append.mp ht with ht | ht
      · exact G.far t ht
      · rw [List.mem_singleton.mp ht]
        exact hSl
    · refine List.nodup_append.mpr ⟨G.nd, by simp, fun t ht b hb => ?_⟩
      rw [List.mem_singleton.mp hb]
      obtain ⟨j, hj⟩ := List.mem_iff_getElem?.mp ht
      obtain ⟨_, _, _, _, e⟩ := G.pair j t hj
      exact Nat.ne_of_lt (Heap.lt_size e)
    · intro j t hj
      rcases Nat.lt_trichotomy j ts.length with q | q | q
      · rw [List.getElem?_append_left q] at hj
        obtain ⟨x, y, h1, h2, e⟩ := G.pair j t hj
        have ft := G.far t (List.mem_of_getElem? hj)
        obtain ⟨f1, f2, f3, f4⟩ := farz ft
        exact ⟨x, y, h1, h2, up t _ (Nat.ne_of_gt ft) (hkp t _ f1 f2 f3 f4 e)⟩
      · subst q
        have e : h.objs.size = t := by simpa using hj
        subst e
        rw [hl]
        exact ⟨_, _, hx, hy, up _ _ (Nat.ne_of_gt hSl) hp⟩
      · rw [List.getElem?_eq_none (by rw [List.length_append, List.length_singleton]; omega)] at hj
        cases hj
/-- *zip(a, b), the zip just made of two tuples -/
theorem zip_starred {a b : Addr} {Q : List Value → Shared → Prop} (hh : A.handled = none) (ha : s.heap.IsTuple a xs) (hb : s.heap.IsTuple b ys) (hn : min xs.size ys.size ≤ sizeLine)
    (h : ∀ (h' : Heap) (tk : Nat) (ts : List Addr), (∀ c o, s.heap.get? c = some o → h'.get? c = some o) → ts.length = min xs.size ys.size → Gath h' s.heap.objs.size xs ys ts → Q (ts.map Value.ref) { s with heap := h', toks := tk }) :
    wpAny (model prog w) A (call (.type "zip") [.ref a, .ref b]) (fun v s₁ => PySem.W.StarOf (model prog w) A E v Q s₁) E s := by
  obtain ⟨oa, ea, _⟩ := id ha
  obtain ⟨ob, eb, _⟩ := id hb
  have la : a < s.heap.objs.size := Heap.lt_size ea
  have lb : b < s.heap.objs.size := Heap.lt_size eb
  refine RZ.call_zipT ha hb fun h0 hz hTI hTO h1 h2 hsz hk => ?_
  have D := PySem.W.ktu_apart s.heap.objs.size a b la lb
  have Z : ZipAt h0 (s.heap.objs.size + 4) (s.heap.objs.size + 2) (s.heap.objs.size + 3) s.heap.objs.size (s.heap.objs.size + 1) a b xs ys 0 := ⟨hTI, h1, h2, ha.at fun o e => hk a o e, hb.at fun o e => hk b o e, .inl ⟨hz, _, _, hTO⟩⟩
  generalize hN : s.heap.objs.size = N at *
  have T0 : ∀ (g : Heap) (tk : Nat), ZipAt g (N + 4) (N + 2) (N + 3) N (N + 1) a b xs ys 0 → ({ s with heap := g, toks := tk } : Shared).TypeIs (.ref (N + 4)) "zip" := fun g tk Zg => ZipAt.type (s := { s with heap := g, toks := tk }) Zg
  unfold PySem.W.StarOf notIterableAtAll
  refine wpAny_bind (wpAny_specialOf (T0 h0 s.toks Z) F.slot_zip_iter.lookup (wpAny_pure ⟨rfl, ?_⟩))
  unfold collect
  refine wpAny_bind (wpAny_runValue (codeAny_builtin F.entry_proto_collect ?_))
  rw [Around.under_plainId F.plain_proto_collect _]
  show wpAny _ A.in1 (newList [] >>= fun l => again (.builtin "list.__iadd__" ⟨[l, .ref (N + 4)], []⟩)) _ _ _
  refine wpAny_bind (wpAny_newObj_type ?_)
  refine wpAny_pure ⟨plainId_quiet F.plain_list_iadd _, codeAny_builtin F.entry_list_iadd ?_⟩
  rw [Around.under_plainId F.plain_list_iadd _]
  generalize hS : h0.objs.size = S at *
  have hS0 : (h0.push { cls := .type "list", data := .seq ([] : List Value).toArray }).get? S = some { cls := .type "list", data := .seq ([] : List Value).toArray } := by
    rw [← hS]
    exact Heap.get?_push_size _ rfl
  have lS : ∀ {c : Addr} {o : Obj}, h0.get? c = some o → c < S := fun e => hS ▸ Heap.lt_size e
  have cz : N + 4 < S := lS hz
  have cTI : N + 2 < S := lS hTI
  have cTO : N + 3 < S := lS hTO
  have c1 : N < S := Nat.lt_of_le_of_lt (Nat.le_add_right N 4) cz
  have c2 : N + 1 < S := Nat.lt_of_le_of_lt (Nat.add_le_add_left (by decide : 1 ≤ 4) N) cz
  have ca : a < S := Nat.lt_trans la c1
  have cb : b < S := Nat.lt_trans lb c1
  have Z1 : ZipAt (h0.push { cls := .type "list", data := .seq ([] : List Value).toArray }) (N + 4) (N + 2) (N + 3) N (N + 1) a b xs ys 0 :=
    Z.keep (Nat.ne_of_lt cz) (Nat.ne_of_lt cTI) (Nat.ne_of_lt cTO) (Nat.ne_of_lt c1) (Nat.ne_of_lt c2) (Nat.ne_of_lt ca) (Nat.ne_of_lt cb) (fun c o _ e => Heap.get?_push_of_some _ e) ⟨_, hS0⟩
  show wpAny _ A.in1 (Builtin.List.listExtendWith (.ref S) (.ref (N + 4)) (.ref S)) _ _ _
  unfold Builtin.List.listExtendWith
  refine wpAny_bind (wpAny_typeOf (T0 _ s.toks Z1) ?_)
  have t1 : Builtin.List.listSameRef (.ref S) (.ref (N + 4)) = false := by
    have : S ≠ N + 4 := Nat.ne_of_gt cz
    simp [Builtin.List.listSameRef, this]
  have t2 : (Value.type "zip" == Value.type "list") = false := by decide
  have t3 : (Value.type "zip" == Value.type "tuple") = false := by decide
  simp only [t1, t2, t3, Bool.or_false, Bool.false_eq_true, if_false]
  refine wpAny_bind (zip_self Z1 ?_)
  refine wpAny_bind (wpAny_holding ?_)
  unfold Builtin.List.listLengthHint
  refine wpAny_bind (wpAny_specialOf (T0 _ s.toks Z1) zip_nolen ?_)
  show wpAny _ A.in1 (specialOf (Value.ref (N + 4)) (Str.ofString "__length_hint__") >>= _) _ _ _
  refine wpAny_bind (wpAny_specialOf (T0 _ s.toks Z1) zip_nohint ?_)
  refine wpAny_pure ?_
  show wpAny _ A.in1 (rule "list.extend.makes-room" >>= fun _ => Builtin.List.listTouch (.ref S) >>= fun _ => again (.builtin "list.extend.loop" ⟨[.ref S, .ref (N + 4), .ref S], []⟩)) _ _ _
  refine wpAny_bind (wpAny_rule (wpAny_bind ?_))
  show wpAny _ A.in1 (updateSeq S (·.push .none) >>= fun _ => updateSeq S (·.pop)) _ _ _
  refine wpAny_bind (wpAny_updateSeq hS0 rfl ?_)
  have hS2 := Heap.get?_update_self (Obj.mapSeq (·.push Value.none)) hS0 rfl
  refine wpAny_updateSeq hS2 rfl ?_
  have hS3 := Heap.get?_update_self (Obj.mapSeq (·.pop)) hS2 rfl
  have oth : ∀ c o, c ≠ S → (h0.push { cls := .type "list", data := .seq ([] : List Value).toArray }).get? c = some o →
      (((h0.push { cls := .type "list", data := .seq ([] : List Value).toArray }).update S (Obj.mapSeq (·.push Value.none))).update S (Obj.mapSeq (·.pop))).get? c = some o :=
    fun c o hc e => (Heap.get?_update_other _ _ (Ne.symm hc)).trans ((Heap.get?_update_other _ _ (Ne.symm hc)).trans e)
  have Z3 := Z1.keep (Nat.ne_of_lt cz) (Nat.ne_of_lt cTI) (Nat.ne_of_lt cTO) (Nat.ne_of_lt c1) (Nat.ne_of_lt c2) (Nat.ne_of_lt ca) (Nat.ne_of_lt cb) oth ⟨_, hS3⟩
  refine wpAny_pure ⟨plainId_quiet F.plain_extend_loop _, zip_gather (s := s) (h₁ := s.heap) (.ref S) hh D cz cTI cTO c1 c2 ca cb hn (fun h' tk acc c ts hk' hS' hl G hacc => ?_) _ 0 _ s.toks _ #[] [] (Nat.sub_zero _) (Nat.zero_le _) Z3 (fun c o e1 _ _ _ _ e => ?_) hS3 rfl rfl ⟨?_, ?_, ?_⟩⟩
  · show wpAny _ A (load S >>= _) _ _ _
    refine wpAny_bind (wpAny_load hS' (wpAny_pure ?_))
    show Q acc.toList _
    rw [hacc]
    have low : ∀ {c : Addr} {o : Obj} (k : Nat), s.heap.get? c = some o → c ≠ N + k := fun k e => Nat.ne_of_lt (Nat.lt_of_lt_of_le (hN ▸ Heap.lt_size e) (Nat.le_add_right N k))
    refine h h' tk ts (fun c o e => hk' c o (Nat.ne_of_lt (Nat.lt_trans (hN ▸ Heap.lt_size e) c1)) (low 4 e) (low 3 e) (low 0 e) (low 1 e) e) hl ⟨fun t ht => Nat.lt_trans c1 (G.far t ht), G.nd, G.pair⟩
  · exact oth c o e1 (Heap.get?_push_of_some _ (hk c o e))
  · exact fun t ht => absurd ht List.not_mem_nil
  · exact List.nodup_nil
  · intro j t hj
    simp at hj
end

section
variable {X : Cx} {pins : List (Addr × Obj)} {σ : L2.St}
/-- new pairs are tracked, one after the other -/
theorem track_pairs {h' : Heap} {us ws : Array Value} {xs ys : List V} (rx : Vals xs us.toList) (ry : Vals ys ws.toList) : ∀ (ts : List Addr) (k : Nat) (H : Hp) (s : Shared), s.heap = h' → Inv X pins σ H s → (∀ t ∈ ts, FpOk X pins H t) → ts.Nodup →
    (∀ (j : Nat) (t : Addr), ts[j]? = some t → ∃ x y, us[k + j]? = some x ∧ ws[k + j]? = some y ∧ IsPair h' t x y) →
    ∃ H', Inv X pins σ H' s ∧ Same H H' ∧ (∀ (j : Nat) (t : Addr) (x y : V), ts[j]? = some t → xs[k + j]? = some x → ys[k + j]? = some y → H' t = some (.tup [x, y])) ∧ ∀ b, b ∉ ts → H b = none → H' b = none
  | [], k, H, s, _, I, _, _, _ => ⟨H, I, Same.refl H, fun j t x y e => by simp at e, fun _ _ e => e⟩
  | t :: ts, k, H, s, eh, I, hf, nd, hp => by
    obtain ⟨x, y, hx, hy, hpr⟩ := hp 0 t rfl
    have ft := hf t (by simp)
    have nd' := List.nodup_cons.mp nd
    obtain ⟨vx, gx, rvx⟩ : ∃ v, xs[k]? = some v ∧ RelV v x := by
      cases e : xs[k]? with
      | none =>
        have := rx.none_of e
        rw [Array.getElem?_toList] at this
        rw [Nat.add_zero, this] at hx
        cases hx
      | some v =>
        obtain ⟨u, hu, r⟩ := rx.get e
        rw [Array.getElem?_toList] at hu
        rw [Nat.add_zero, hu] at hx
        rw [← Option.some.inj hx]
        exact ⟨v, rfl, r⟩
    obtain ⟨vy, gy, rvy⟩ : ∃ v, ys[k]? = some v ∧ RelV v y := by
      cases e : ys[k]? with
      | none =>
        have := ry.none_of e
        rw [Array.getElem?_toList] at this
        rw [Nat.add_zero, this] at hy
        cases hy
      | some v =>
        obtain ⟨u, hu, r⟩ := ry.get e
        rw [Array.getElem?_toList] at hu
        rw [Nat.add_zero, hu] at hy
        rw [← Option.some.inj hy]
        exact ⟨v, rfl, r⟩
    have I1 := adopt (o := .tup [vx, vy]) I ft ⟨by show 2 ≤ sizeLine; decide, [x, y], .cons rvx (.cons rvy .nil), ⟨_, by rw [eh]; exact hpr, rfl, _, rfl⟩⟩
    obtain ⟨H', I2, sm, ht, hn⟩ := track_pairs rx ry ts (k + 1) _ s eh I1 (fun b hb => by
      have f := hf b (by simp [hb])
      have ne : b ≠ t := fun e => nd'.1 (e ▸ hb)
      exact ⟨by rw [upd_ne ne]; exact f.1, f.2⟩) nd'.2 fun j b hj => by
        have q := hp (j + 1) b (by simpa using hj)
        rw [show k + 1 + j = k + (j + 1) by omega]
        exact q
    refine ⟨H', I2, (same_upd ft.1).trans sm, fun j b x' y' hj h1 h2 => ?_, fun b hb hn' => hn b (fun q => hb (by simp [q])) ?_⟩
    · cases j with
      | zero =>
        have e : t = b := by simpa using hj
        subst e
        rw [Nat.add_zero, gx] at h1
        rw [Nat.add_zero, gy] at h2
        rw [← Option.some.inj h1, ← Option.some.inj h2]
        exact sm _ _ upd_same
      | succ j => exact ht j b x' y' (by simpa using hj) (by rw [show k + 1 + j = k + (j + 1) by omega]; exact h1) (by rw [show k + 1 + j = k + (j + 1) by omega]; exact h2)
    · have ne : b ≠ t := fun e => hb (by simp [e])
      rw [upd_ne ne]
      exact hn'
/-- [*zip(a, b)], two tuples -/
def tZipL (K : PySem.W.Frag) (ta : TA) : TE := fun σ H Q => ta σ H fun vs H1 => ∃ a b xs ys, vs = [.ref a, .ref b] ∧ SqT K H1 a xs ∧ SqT K H1 b ys ∧ min xs.length ys.length ≤ sizeLine ∧
  ∀ (D : Addr) (ts : List Addr) (H' : Hp), Same H1 H' → H1 D = none → H' D = some (.lst (ts.map V.ref)) → ts.length = min xs.length ys.length →
    (∀ (j : Nat) (t : Addr) (x y : V), ts[j]? = some t → xs[j]? = some x → ys[j]? = some y → H' t = some (.tup [x, y])) → Q (.ref D) H'
theorem pe_zipL {e e2 : Expr} {ta : TA} {p cp sp pos : Pos} (hc : X.calm = true) (hg : Gl X "zip") (hm : X.mg "zip" = none) (ha : PA X [e, e2] ta)
    (hs : starEach [e, e2] X.env = (false, eval e X.env) :: starEach [e2] X.env := by rfl) (hpl : (backTo cp (starEach [e2] X.env)).any (·.1) = false := by rfl) :
    PE X (.List [.Starred (.Call (.Name "zip" p) [e, e2] [] cp) sp] pos) (tZipL X.K ta) := by
  refine ⟨fun pins s σ H Q I h => ?_⟩
  refine wpAny_List_spliced (PySem.W.items_star ?_)
  refine Call_ (ld_blt I hg hm PyProof.Rows.boot_zip (PyProof.Rows.callWith_type1 (thn (ha.run cp pins s σ H _ I h) fun us s1 ⟨vs, H1, I1, r1, q1⟩ => ?_) hs hpl))
  obtain ⟨a, b, xs, ys, rfl, hqx, hqy, hz, q⟩ := q1
  obtain ⟨u1, u2, rfl, e1, e2⟩ := vals2 r1
  obtain rfl : u1 = Value.ref a := e1
  obtain rfl : u2 = Value.ref b := e2
  obtain ⟨its, rv, p1, _⟩ := I1.tuple hqx
  obtain ⟨its2, rv2, p2, _⟩ := I1.tuple hqy
  have l1 : its.toArray.size = xs.length := by rw [List.size_toArray]; exact rv.length.symm
  have l2 : its2.toArray.size = ys.length := by rw [List.size_toArray]; exact rv2.length.symm
  refine zip_starred (I1.ok.hd hc) (show s1.heap.IsTuple a its.toArray from p1) (show s1.heap.IsTuple b its2.toArray from p2) (by rw [l1, l2]; exact hz) fun h' tk ts hk hl G => ?_
  refine Calls.spliced_nil ?_
  rw [l1, l2] at hl
  have I2 : Inv X pins σ H1 { s1 with heap := h', toks := tk } := I1.kept (t' := tk) hk
  have fp : ∀ t ∈ ts, FpOk X pins H1 t := fun t ht => I1.fpOk (Nat.le_of_lt (G.far t ht)) (I1.hok.fresh (Nat.le_of_lt (G.far t ht)))
  obtain ⟨H2, I3, sm, ht, hn⟩ := track_pairs (h' := h') (us := its.toArray) (ws := its2.toArray) rv rv2 ts 0 H1 _ rfl I2 fp G.nd fun j t hj => by
    rw [Nat.zero_add]
    exact G.pair j t hj
  rw [List.append_nil]
  refine ⟨by rw [List.length_map, hl]; exact hz, ?_⟩
  have hf : H2 h'.objs.size = none := I3.hok.fresh (Nat.le_refl _)
  have vt : Vals (ts.map V.ref) (ts.map Value.ref) := by
    have go : ∀ l : List Addr, Vals (l.map V.ref) (l.map Value.ref) := by
      intro l
      induction l with
      | nil => exact .nil
      | cons t l ih => exact .cons rfl ih
    exact go ts
  refine ⟨.ref h'.objs.size, upd H2 h'.objs.size (.lst (ts.map V.ref)), I3.laid (t' := tk) (fun c o e => Heap.get?_push_of_some _ e) (Nat.le_refl _) ?_, rfl, q _ ts _ (sm.trans (same_upd hf)) (sm.free hf) upd_same hl fun j t x y hj hx hy => ?_⟩
  · exact ⟨by rw [List.length_map, hl]; exact hz, _, 0, vt, Heap.get?_push_size _ rfl⟩
  · have := ht j t x y hj (by rw [Nat.zero_add]; exact hx) (by rw [Nat.zero_add]; exact hy)
    exact same_upd hf _ _ this
end
end K1

namespace K1
open PySem PySem.Spec PyProof.Rows L2
/-! ### the text by places -/
def topS (i : Nat) : Stmt := PySem.Challenge.pw_halvesmeet_k01_whole_order_of_plain_valu.main.body.getD i (.Pass ⟨0, 0, 0, 0⟩)
abbrev sInteger : Stmt := topS 11
abbrev sSigns : Stmt := topS 12
abbrev sString : Stmt := topS 13
abbrev sAtom : Stmt := topS 14
abbrev sPlain : Stmt := topS 15
abbrev sRank : Stmt := topS 16
abbrev sAtoms : Stmt := topS 17
abbrev sCompared : Stmt := topS 18
abbrev sMerged : Stmt := topS 19
abbrev sOrderedIn : Stmt := topS 20
abbrev sRequire : Stmt := topS 21
abbrev sLess : Stmt := topS 22
abbrev sOrdered : Stmt := topS 23
abbrev sDice : Stmt := topS 25
abbrev sRoll : Stmt := topS 26
abbrev sPick : Stmt := topS 27
abbrev sMixed : Stmt := topS 28
abbrev sVaPlain : Stmt := topS 29
abbrev sVaNear : Stmt := topS 30
abbrev sVaRank : Stmt := topS 31
abbrev sLawOrdered : Stmt := topS 32
abbrev sRight : Stmt := topS 33
abbrev sLaw : Stmt := topS 34
/-- the module's names that are read -/
structure Txt (mg : Str → Option Value) : Prop where
  isi : mg "isinstance" = none
  tint : mg "int" = none
  tbool : mg "bool" = none
  tstr : mg "str" = none
  ttup : mg "tuple" = none
  tlist : mg "list" = none
  len : mg "len" = none
  all : mg "all" = none
  zip : mg "zip" = none
  range : mg "range" = none
  abs : mg "abs" = none
  max : mg "max" = none
  min : mg "min" = none
  repr : mg "repr" = none
  sorted : mg "sorted" = none
  great : ∃ t, mg "GREATEST" = some (.int 1000000000000000000000000000000000000000000000000000000000000 t)
  nestMax : ∃ t, mg "MAX_NEST" = some (.int 12 t)
  strMax : ∃ t, mg "MAX_STRING" = some (.int 3000 t)
  signs : ∃ t, mg "STRING_SIGNS" = some (.str signs t)

/-! ### isinstance of a plain value, with its answer told -/
def tIs (K : PySem.W.Frag) (T : String) (te : TE) : TE := fun σ H Q => te σ H fun v H1 => ∃ (p : PV) (b : Bool), Dp K H1 v (toD p) ∧ kin p T = b ∧ Q (.bl b) H1
theorem pe_isP {X : Cx} {e : Expr} {te : TE} {T : String} {x : Str} {p p2 pos : Pos} (h4 : four T) (hg : Gl X "isinstance") (hm : X.mg "isinstance" = none) (hgT : Gl X x) (hmT : X.mg x = none) (hb : bootBuiltins x = some (.type T)) (he : PE X e te)
    (hn : x ≠ "__name__" := by decide) (hd : (x == ("__debug__" : Str)) = false := by decide) (hs : starEach [e, .Name x p2] X.env = (false, eval e X.env) :: starEach [.Name x p2] X.env := by rfl)
    (hpl : (backTo pos (starEach [.Name x p2] X.env)).any (·.1) = false := by rfl) : PE X (.Call (.Name "isinstance" p) [e, .Name x p2] [] pos) (tIs X.K T te) := by
  have hB : bootBuiltins "isinstance" = some (.builtin "isinstance") := by decide +kernel
  have h := pe_callB (p := p) (pos := pos) cr_isP hg hm hB (pa_cons he (pa_cons (pe_bltn (v := .ty T) (pos := p2) hgT hmT hb rfl hn hd) pa_nil) hs) (by decide) (by decide) hs hpl
  refine ⟨fun pins s σ H Q I hq => h.run pins s σ H Q I ?_⟩
  have hq : te σ H fun v H1 => ∃ (p : PV) (b : Bool), Dp X.K H1 v (toD p) ∧ kin p T = b ∧ Q (.bl b) H1 := hq
  show te σ H fun v H1 => rIsP X.K [v, .ty T] H1 Q
  exact cast (congrArg (te σ H) (by
    funext v H1
    apply propext
    constructor
    · rintro ⟨p, b, h1, rfl, h3⟩
      exact ⟨v, p, T, rfl, h1, h4, h3⟩
    · rintro ⟨v', p, T', e, h1, _, h3⟩
      injection e with e1 e2
      injection e2 with e2 _
      have eT : T = T' := V.ty.inj e2
      subst e1
      exact ⟨p, _, h1, rfl, by rw [eT]; exact h3⟩)) hq
theorem k_ii (i : Int) : kin (.int i) "int" = true := by show ("int" == "int") = true; decide
theorem k_ib (i : Int) : kin (.int i) "bool" = false := by show ("int" == "bool") = false; decide
theorem k_is (i : Int) : kin (.int i) "str" = false := by show ("int" == "str") = false; decide
theorem k_it (i : Int) : kin (.int i) "tuple" = false := by show ("int" == "tuple") = false; decide
theorem k_si (x : Str) : kin (.str x) "int" = false := by show ("str" == "int") = false; decide
theorem k_sb (x : Str) : kin (.str x) "bool" = false := by show ("str" == "bool") = false; decide
theorem k_ss (x : Str) : kin (.str x) "str" = true := by show ("str" == "str") = true; decide
theorem k_st (x : Str) : kin (.str x) "tuple" = false := by show ("str" == "tuple") = false; decide
theorem k_tt (x : List PV) : kin (.tup x) "tuple" = true := by show ("tuple" == "tuple") = true; decide
theorem k_ts (x : List PV) : kin (.tup x) "str" = false := by show ("tuple" == "str") = false; decide
theorem k_ti (x : List PV) : kin (.tup x) "int" = false := by show ("tuple" == "int") = false; decide
theorem dp_int {K : PySem.W.Frag} {H : Hp} (i : Int) : Dp K H (.int i) (toD (.int i)) := by simp only [toD]; exact .int i
theorem dp_str {K : PySem.W.Frag} {H : Hp} (x : Str) : Dp K H (.str x) (toD (.str x)) := by simp only [toD]; exact .str x
theorem dp_non {K : PySem.W.Frag} {H : Hp} : Dp K H .non (toD .non) := by simp only [toD]; exact .non
theorem dp_int' {K : PySem.W.Frag} {H : Hp} {v : V} {i : Int} (h : Dp K H v (toD (.int i))) : v = .int i := by simp only [toD] at h; cases h; rfl
theorem dp_str' {K : PySem.W.Frag} {H : Hp} {v : V} {x : Str} (h : Dp K H v (toD (.str x))) : v = .str x := by simp only [toD] at h; cases h; rfl
theorem dp_non' {K : PySem.W.Frag} {H : Hp} {v : V} (h : Dp K H v (toD .non)) : v = .non := by simp only [toD] at h; cases h; rfl
theorem q_yes {Q : VK} {H : Hp} {p : Prop} [Decidable p] (h : p) (q : Q (.bl true) H) : Q (.bl (decide p)) H := by
  rw [decide_eq_true h]
  exact q
theorem q_no {Q : VK} {H : Hp} {p : Prop} [Decidable p] (h : ¬ p) (q : Q (.bl false) H) : Q (.bl (decide p)) H := by
  rw [decide_eq_false h]
  exact q
section
variable {P : Program} {w : World} {K : PySem.W.Frag} {mg : Str → Option Value} {base : Heap} {f : Addr} {fd : FuncData}
/-! ### is_integer -/
def spInteger : Sp := fun vs H Q _ => (∃ i : Int, vs = [.int i] ∧ good (.int i) ∧ Q (.bl true) H) ∨ ∃ x : Str, vs = [.str x] ∧ Q (.bl false) H
theorem scInteger : FnScope ["value"] ["value"] (defScope sInteger) := ⟨rfl, rfl, rfl, by decide +kernel, rfl, by decide +kernel, by decide +kernel⟩
theorem ok_integer (F : Fun K "is_integer" "is_integer" sInteger f fd) (T : Txt mg) : FnOk P w K mg base CX0 1 f fd ["value"] spInteger := by
  obtain ⟨tg, mG⟩ := T.great
  refine F.ok scInteger (fun vs H Q E h => ?_) (fun cdv A outer s H vs Q E hr h => ?_)
  · rcases h with ⟨i, rfl, _⟩ | ⟨x, rfl, _⟩ <;> rfl
  · refine ⟨_, pss_one (ps_ret (pe_and (pe_isP (.inl rfl) (by rfl) T.isi (by rfl) T.tint (by decide +kernel) (pv 0))
      (pe_and (pe_not (pe_isP (.inr (.inr (.inr rfl))) (by rfl) T.isi (by rfl) T.tbool (by decide +kernel) (pv 0)))
        (pe_one (pe_chain op_lt op_lt (pe_un un_neg (pe_glob (v := .int 1000000000000000000000000000000000000000000000000000000000000) (by rfl) mG ⟨_, rfl⟩)) (pv 0) (pe_glob (v := .int 1000000000000000000000000000000000000000000000000000000000000) (by rfl) mG ⟨_, rfl⟩)))))), ?_⟩
    rcases h with ⟨i, rfl, hg, q⟩ | ⟨x, rfl, q⟩
    · simp only [good] at hg
      refine ⟨_, rfl, .int i, true, dp_int i, k_ii i, true, rfl, iteT ?_⟩
      refine ⟨_, rfl, .int i, false, dp_int i, k_ib i, false, rfl, true, rfl, iteT ?_⟩
      refine ⟨_, rfl, _, rfl, _, _, rfl, rfl, true, ?_, iteT ⟨_, _, rfl, rfl, ?_⟩⟩
      · exact congrArg V.bl (decide_eq_true hg.1)
      · exact q_yes hg.2 q
    · refine ⟨_, rfl, .str x, false, dp_str x, k_si x, false, rfl, iteF ?_⟩
      exact q

/-! ### a def of the text, to be called -/
/-- the module's name x is a def that keeps the promise sp, by at most level k -/
def Cal (P : Program) (w : World) (K : PySem.W.Frag) (mg : Str → Option Value) (base : Heap) (k : Nat) (x : Str) (sp : Sp) : Prop :=
  ∃ (f : Addr) (fd : FuncData) (ps : List Str), FnOk P w K mg base CX0 k f fd ps sp ∧ mg x = some (.ref f) ∧ PySem.W.keepIn K (.ref f) = true ∧ Binds K fd ps []
theorem nd_ltA {X : Cx} : OpR X (compareOp .Lt) (fun x y H Q => (∃ i j : Int, x = .int i ∧ y = .int j ∧ Q (.bl (decide (i < j))) H) ∨ ∃ i j : Str, x = .str i ∧ y = .str j ∧ Q (.bl (decide (i.cps.toList < j.cps.toList))) H) := by
  intro pins s σ H x y v u Q I rx ry h
  rcases h with h | h
  · exact op_lt pins s σ H x y v u Q I rx ry h
  · exact op_lt_str pins s σ H x y v u Q I rx ry h
/-- a comprehension's turn without a test -/
theorem yes_lc {te : TE} {σ : L2.St} {H : Hp} {k : VK} {n : Hp → Prop} (h : te σ H k) : tYes σ H fun b H3 => if b = true then te σ H3 k else n H3 := by
  show if true = true then te σ H k else n H
  rw [if_pos rfl]
  exact h
theorem lc_str {x : Str} {g : TG} {tt : TT} {te : TE} {vs : List Nat} {σ : L2.St} {H1 : Hp} {D : Addr} {Qd : Hp → Prop} (Pv : Nat → Hp → Prop) (h0 : Pv 0 (upd H1 D (.lst [])))
    (hs : ∀ i c H, x.cps[i]? = some c → Pv i H → g (.str ⟨#[c]⟩) (wipe σ vs) H fun σ2 H2 => wipe σ2 vs = wipe σ vs ∧ tt σ2 H2 fun b H3 =>
      if b = true then te σ2 H3 fun y H4 => ∃ acc, H4 D = some (.lst acc) ∧ acc.length < sizeLine ∧ Pv (i + 1) (upd H4 D (.lst (acc ++ [y]))) else Pv (i + 1) H3) (hd : ∀ H, Pv x.cps.size H → Qd H) :
    ∃ W : Nat → Nat → Hp → Prop, (∃ m, W 0 m (upd H1 D (.lst []))) ∧ ∀ i m H, W i m H →
      ((Its x).stop i H ∧ Qd H) ∨ ((Its x).go i H ∧ ∃ Nx : Hp → Prop, (∀ H', Nx H' → ∃ m', m' < m ∧ W (i + 1) m' H') ∧ ∀ y H', (Its x).yld i H y H' → g y (wipe σ vs) H' fun σ2 H2 => wipe σ2 vs = wipe σ vs ∧ tt σ2 H2 fun b H3 =>
        if b = true then te σ2 H3 fun y H4 => ∃ acc, H4 D = some (.lst acc) ∧ acc.length < sizeLine ∧ Nx (upd H4 D (.lst (acc ++ [y]))) else Nx H3) := by
  refine ⟨fun i m H => m = x.cps.size - i ∧ i ≤ x.cps.size ∧ Pv i H, ⟨_, rfl, Nat.zero_le _, h0⟩, ?_⟩
  rintro i m H ⟨rfl, hi, p⟩
  by_cases hlt : i < x.cps.size
  · refine .inr ⟨hlt, Pv (i + 1), fun H' p' => ⟨x.cps.size - (i + 1), by omega, rfl, hlt, p'⟩, fun y H' z => ?_⟩
    obtain ⟨e, c, hc, rfl⟩ := z
    subst e
    exact hs i c _ hc p
  · have e : i = x.cps.size := by omega
    subst e
    exact .inl ⟨Nat.le_refl _, hd H p⟩

/-! ### has_signs -/
def spSigns : Sp := fun vs H Q _ => ∃ x : Str, vs = [.str x, .str signs, .int 3000] ∧ goodS x ∧ ∀ H', Same H H' → Q (.bl true) H'
theorem scSigns : FnScope ["value", "signs", "most", "sign"] ["value", "signs", "most"] (defScope sSigns) := ⟨rfl, rfl, rfl, by decide +kernel, rfl, by decide +kernel, by decide +kernel⟩
theorem ok_signs (F : Fun K "has_signs" "has_signs" sSigns f fd) (T : Txt mg) : FnOk P w K mg base CX0 1 f fd ["value", "signs", "most"] spSigns := by
  refine F.ok scSigns (fun vs H Q E h => ?_) (fun cdv A outer s H vs Q E hr h => ?_)
  · obtain ⟨x, rfl, _⟩ := h
    rfl
  · obtain ⟨x, rfl, hx, q⟩ := h
    refine ⟨_, pss_one (ps_ret (pe_and (pe_isP (.inr (.inl rfl)) (by rfl) T.isi (by rfl) T.tstr (by decide +kernel) (pv 0))
      (pe_and (pe_cmpR op_le (pe_callB call_len_str (by rfl) T.len PySem.boot_len (pa_cons (pv 0) pa_nil)) (pv 2) (nomark _))
        (pe_one (pe_callB (cr_all (by rfl)) (by rfl) T.all (by decide +kernel) (pa_cons
          (pe_lc (own := [("sign", 3)]) (g := gName 3) (tt := tYes) (by rfl) scSigns.nd (pi_str (pv 0)) (blkOk_by (own := [("sign", 3)]) (N := ["value", "signs", "most", "sign"]) (sc := defScope sSigns) (by decide +kernel))
            (fun _ _ _ _ _ => pg_name (i := 3) scSigns.nd rfl (Or.inl rfl)) (fun _ _ _ _ _ => pts_nil) (fun _ _ _ _ _ => pe_cmpR op_in_sign (pv 3) (pv 1) rfl)) pa_nil)))))), ?_⟩
    have hl : x.length ≤ 100 := hx.1
    refine ⟨_, rfl, .str x, true, dp_str x, k_ss x, true, rfl, iteT ?_⟩
    refine ⟨_, rfl, x, rfl, by rw [sizeLine_eq]; omega, _, rfl, _, _, rfl, rfl, true, ?_, iteT ?_⟩
    · exact congrArg V.bl (decide_eq_true (by omega))
    · refine ⟨_, rfl, x, rfl, fun D hD => ?_⟩
      refine lc_str (fun i H' => Same H H' ∧ H' D = some (.lst (List.replicate i (.bl true)))) ⟨same_upd hD, upd_same⟩ (fun i c H' hc hP => ?_) fun H' hP => ?_
      · obtain ⟨sm, eD⟩ := hP
        have hi : i < x.cps.size := (Array.getElem?_eq_some_iff.mp hc).1
        have hm : c ∈ x.cps.toList := by
          obtain ⟨h1, h2⟩ := Array.getElem?_eq_some_iff.mp hc
          rw [← h2]
          exact Array.getElem_mem_toList h1
        have hz : x.cps.size ≤ 100 := hl
        refine ⟨rfl, yes_lc ?_⟩
        refine ⟨_, rfl, _, rfl, c, signs, rfl, rfl, _, eD, ?_, fun b o e => ?_, ?_⟩
        · rw [List.length_replicate, sizeLine_eq]
          omega
        · have ne : b ≠ D := ne_of_none e hD
          rw [upd_ne ne]
          exact sm _ _ e
        · rw [upd_same, decide_eq_true (hx.2 c hm), List.replicate_succ']
      · obtain ⟨sm, eD⟩ := hP
        refine ⟨D, List.replicate x.cps.size true, rfl, SqL.of (by rw [eD, List.map_replicate]), ?_⟩
        have e : (List.replicate x.cps.size true).all id = true := by simp
        rw [e]
        exact q H' sm

/-! ### is_string -/
def spString : Sp := fun vs H Q _ => ∃ x : Str, vs = [.str x] ∧ goodS x ∧ ∀ H', Same H H' → Q (.bl true) H'
theorem scString : FnScope ["value"] ["value"] (defScope sString) := ⟨rfl, rfl, rfl, by decide +kernel, rfl, by decide +kernel, by decide +kernel⟩
theorem ok_string (F : Fun K "is_string" "is_string" sString f fd) (T : Txt mg) (C : Cal P w K mg base 1 "has_signs" spSigns) : FnOk P w K mg base CX0 2 f fd ["value"] spString := by
  obtain ⟨f1, fd1, ps1, G1, m1, k1, b1⟩ := C
  obtain ⟨t1, mS⟩ := T.signs
  obtain ⟨t2, mM⟩ := T.strMax
  refine F.ok scString (fun vs H Q E h => ?_) (fun cdv A outer s H vs Q E hr h => ?_)
  · obtain ⟨x, rfl, _⟩ := h
    rfl
  · obtain ⟨x, rfl, hx, q⟩ := h
    refine ⟨_, pss_one (ps_ret (pe_call G1 hr (by rfl) m1 k1 b1 .nil pass0 (pa_cons (pv 0) (pa_cons (pe_glob (v := .str signs) (by rfl) mS ⟨_, rfl⟩) (pa_cons (pe_glob (v := .int 3000) (by rfl) mM ⟨_, rfl⟩) pa_nil))))), ?_⟩
    exact ⟨_, rfl, x, rfl, hx, q⟩

/-! ### is_atom -/
def atom (p : PV) : Prop := ∀ xs, p ≠ .tup xs
def spAtom (K : PySem.W.Frag) : Sp := fun vs H Q _ => ∃ (v : V) (p : PV), vs = [v] ∧ Dp K H v (toD p) ∧ good p ∧ atom p ∧ ∀ H', Same H H' → Q (.bl true) H'
theorem scAtom : FnScope ["value"] ["value"] (defScope sAtom) := ⟨rfl, rfl, rfl, by decide +kernel, rfl, by decide +kernel, by decide +kernel⟩
theorem ok_atom (F : Fun K "is_atom" "is_atom" sAtom f fd) (C1 : Cal P w K mg base 1 "is_integer" spInteger) (C2 : Cal P w K mg base 2 "is_string" spString) : FnOk P w K mg base CX0 3 f fd ["value"] (spAtom K) := by
  obtain ⟨f1, fd1, ps1, G1, m1, k1, b1⟩ := C1
  obtain ⟨f2, fd2, ps2, G2, m2, k2, b2⟩ := C2
  refine F.ok scAtom (fun vs H Q E h => ?_) (fun cdv A outer s H vs Q E hr h => ?_)
  · obtain ⟨v, p, rfl, _⟩ := h
    rfl
  · obtain ⟨v, p, rfl, hd, hg, ha, q⟩ := h
    refine ⟨_, pss_one (ps_ret (pe_or (pe_cmp (pc_isN (pv 0)) rfl) (pe_or (pe_call G1 (hr.mono (by decide)) (by rfl) m1 k1 b1 .nil pass0 (pa_cons (pv 0) pa_nil)) (pe_one (pe_call G2 hr (by rfl) m2 k2 b2 .nil pass0 (pa_cons (pv 0) pa_nil)))))), ?_⟩
    cases p with
    | non =>
      obtain rfl := dp_non' hd
      exact ⟨_, rfl, true, congrArg V.bl (decide_eq_true rfl), iteT (q H (Same.refl H))⟩
    | int i =>
      obtain rfl := dp_int' hd
      exact ⟨_, rfl, false, congrArg V.bl (decide_eq_false (by intro z; cases z)), iteF ⟨_, rfl, .inl ⟨i, rfl, hg, true, rfl, iteT (q H (Same.refl H))⟩⟩⟩
    | str x =>
      obtain rfl := dp_str' hd
      exact ⟨_, rfl, false, congrArg V.bl (decide_eq_false (by intro z; cases z)), iteF ⟨_, rfl, .inr ⟨x, rfl, false, rfl, iteF ⟨_, rfl, x, rfl, by simpa only [good] using hg, q⟩⟩⟩⟩
    | tup xs => exact absurd rfl (ha xs)

/-! ### rank_of -/
def spRankOf (K : PySem.W.Frag) : Sp := fun vs H Q _ => ∃ (v : V) (p : PV), vs = [v] ∧ Dp K H v (toD p) ∧ Q (.int (kcode p)) H
theorem scRank : FnScope ["value"] ["value"] (defScope sRank) := ⟨rfl, rfl, rfl, by decide +kernel, rfl, by decide +kernel, by decide +kernel⟩
theorem ok_rank (F : Fun K "rank_of" "rank_of" sRank f fd) (T : Txt mg) : FnOk P w K mg base CX0 1 f fd ["value"] (spRankOf K) := by
  refine F.ok scRank (fun vs H Q E h => ?_) (fun cdv A outer s H vs Q E hr h => ?_)
  · obtain ⟨v, p, rfl, _⟩ := h
    rfl
  · obtain ⟨v, p, rfl, hd, q⟩ := h
    refine ⟨_, pss_cons (ps_if (pt_cmp (pc_isN (pv 0)) rfl) (pss_one (ps_ret pe_int)) pss_nil)
      (pss_cons (ps_if (pt_val (pe_isP (.inr (.inl rfl)) (by rfl) T.isi (by rfl) T.tstr (by decide +kernel) (pv 0))) (pss_one (ps_ret pe_int)) pss_nil)
        (pss_one (ps_ret (pe_ifExp (pt_val (pe_isP (.inr (.inr (.inl rfl))) (by rfl) T.isi (by rfl) T.ttup (by decide +kernel) (pv 0))) pe_int pe_int)))), ?_⟩
    cases p with
    | non =>
      obtain rfl := dp_non' hd
      exact ⟨_, rfl, true, congrArg V.bl (decide_eq_true rfl), iteT q⟩
    | int i =>
      obtain rfl := dp_int' hd
      exact ⟨_, rfl, false, congrArg V.bl (decide_eq_false (by intro z; cases z)), iteF ⟨_, rfl, .int i, false, dp_int i, k_is i, false, rfl, iteF ⟨_, rfl, .int i, false, dp_int i, k_it i, false, rfl, iteF q⟩⟩⟩
    | str x =>
      obtain rfl := dp_str' hd
      exact ⟨_, rfl, false, congrArg V.bl (decide_eq_false (by intro z; cases z)), iteF ⟨_, rfl, .str x, true, dp_str x, k_ss x, true, rfl, iteT q⟩⟩
    | tup xs =>
      obtain ⟨a, ys, rfl, _, _⟩ := dp_tup hd
      exact ⟨_, rfl, false, congrArg V.bl (decide_eq_false (by intro z; cases z)), iteF ⟨_, rfl, .tup xs, false, hd, k_ts xs, false, rfl, iteF ⟨_, rfl, .tup xs, true, hd, k_tt xs, true, rfl, iteT q⟩⟩⟩

/-! ### compared_atoms -/
theorem num_code {p q : PV} (h : kcode p ≠ kcode q) : num (cmp p q) = if kcode p < kcode q then -1 else 1 := by
  cases p <;> cases q <;> simp only [cmp] <;> first | rfl | exact absurd rfl h
def spAtoms (K : PySem.W.Frag) : Sp := fun vs H Q _ => ∃ (v u : V) (p q : PV), vs = [v, u] ∧ Dp K H v (toD p) ∧ Dp K H u (toD q) ∧ good p ∧ good q ∧ nest p ≤ 12 ∧ nest q ≤ 12 ∧ (atom p ∨ atom q) ∧ Q (.int (num (cmp p q))) H
theorem scAtoms : FnScope ["one", "other", "first", "last"] ["one", "other"] (defScope sAtoms) := ⟨rfl, rfl, rfl, by decide +kernel, rfl, by decide +kernel, by decide +kernel⟩
theorem ok_atoms (F : Fun K "compared_atoms" "compared_atoms" sAtoms f fd) (C : Cal P w K mg base 1 "rank_of" (spRankOf K)) : FnOk P w K mg base CX0 2 f fd ["one", "other"] (spAtoms K) := by
  obtain ⟨f1, fd1, ps1, G1, m1, k1, b1⟩ := C
  refine F.ok scAtoms (fun vs H Q E h => ?_) (fun cdv A outer s H vs Q E hr h => ?_)
  · obtain ⟨v, u, p, q, rfl, _⟩ := h
    rfl
  · obtain ⟨v, u, p, q, rfl, hp, hq, gp, gq, np, nq, hat, k⟩ := h
    have hu := hr.units
    refine ⟨_, pss_cons (ps_par (i := 2) (j := 3) (by rfl) scAtoms.nd rfl rfl (by decide) rfl rfl (pa_cons (pe_call G1 hr (by rfl) m1 k1 b1 .nil pass0 (pa_cons (pv 0) pa_nil)) (pa_cons (pe_call G1 hr (by rfl) m1 k1 b1 .nil pass0 (pa_cons (pv 1) pa_nil)) pa_nil)) (by rfl))
      (pss_cons (ps_if (pt_cmpR op_ne (pv 2) (pv 3) (nomark _)) (pss_one (ps_ret (pe_ifExp (pt_cmpR op_lt (pv 2) (pv 3) (nomark _)) (pe_un un_neg pe_int) pe_int))) pss_nil)
      (pss_cons (ps_if (pt_cmpR (op_eqD hu) (pv 0) (pv 1) (nomark _)) (pss_one (ps_ret pe_int)) pss_nil)
        (pss_one (ps_ret (pe_ifExp (pt_cmpR nd_ltA (pv 0) (pv 1) (nomark _)) (pe_un un_neg pe_int) pe_int))))), ?_⟩
    refine ⟨_, rfl, v, p, rfl, hp, _, rfl, u, q, rfl, hq, _, _, rfl, ?_⟩
    refine ⟨_, rfl, _, rfl, rfl, _, rfl, ?_⟩
    refine ite2 (fun c1 => ?_) (fun c1 => ?_)
    · have hk : kcode p ≠ kcode q := fun z => by
        rw [z, decide_eq_true rfl] at c1
        cases c1
      rw [num_code hk] at k
      refine ⟨_, rfl, _, rfl, _, _, rfl, rfl, _, rfl, ?_⟩
      refine ite2 (fun c2 => ?_) (fun c2 => ?_)
      · rw [if_pos (of_decide_eq_true c2)] at k
        exact ⟨1, rfl, k⟩
      · rw [if_neg (of_decide_eq_false (Bool.eq_false_iff.mpr c2))] at k
        exact k
    · have hk : kcode p = kcode q := by
        by_cases z : kcode p = kcode q
        · exact z
        · exact absurd (show (!decide (V.int (kcode p) = V.int (kcode q))) = true from by rw [decide_eq_false (fun y => z (V.int.inj y))]; rfl) c1
      refine ⟨_, rfl, _, rfl, toD p, toD q, hp, hq, shaped_toD gp (by omega), shaped_toD gq (by omega), _, rfl, ?_⟩
      rw [eqv_toD]
      cases c : cmp p q with
      | eq =>
        rw [c] at k
        exact iteT k
      | lt =>
        rw [c] at k
        refine iteF ⟨_, rfl, _, rfl, ?_⟩
        cases p with
        | int i =>
          cases q with
          | int j =>
            obtain rfl := dp_int' hp
            obtain rfl := dp_int' hq
            simp only [cmp] at c
            exact .inl ⟨i, j, rfl, rfl, true, congrArg V.bl (decide_eq_true (cmpI_lt.mp c)), iteT ⟨1, rfl, k⟩⟩
          | _ => cases hk
        | str x =>
          cases q with
          | str y =>
            obtain rfl := dp_str' hp
            obtain rfl := dp_str' hq
            simp only [cmp] at c
            exact .inr ⟨x, y, rfl, rfl, true, congrArg V.bl (decide_eq_true (cmpS_lt.mp c)), iteT ⟨1, rfl, k⟩⟩
          | _ => cases hk
        | non =>
          cases q with
          | non => simp only [cmp] at c; cases c
          | _ => cases hk
        | tup xs =>
          cases q with
          | tup ys =>
            rcases hat with z | z
            · exact absurd rfl (z xs)
            · exact absurd rfl (z ys)
          | _ => cases hk
      | gt =>
        rw [c] at k
        refine iteF ⟨_, rfl, _, rfl, ?_⟩
        cases p with
        | int i =>
          cases q with
          | int j =>
            obtain rfl := dp_int' hp
            obtain rfl := dp_int' hq
            simp only [cmp] at c
            exact .inl ⟨i, j, rfl, rfl, false, congrArg V.bl (decide_eq_false fun z => by rw [cmpI_lt.mpr z] at c; cases c), iteF k⟩
          | _ => cases hk
        | str x =>
          cases q with
          | str y =>
            obtain rfl := dp_str' hp
            obtain rfl := dp_str' hq
            simp only [cmp] at c
            exact .inr ⟨x, y, rfl, rfl, false, congrArg V.bl (decide_eq_false fun z => by rw [cmpS_lt.mpr z] at c; cases c), iteF k⟩
          | _ => cases hk
        | non =>
          cases q with
          | non => simp only [cmp] at c; cases c
          | _ => cases hk
        | tup xs =>
          cases q with
          | tup ys =>
            rcases hat with z | z
            · exact absurd rfl (z xs)
            · exact absurd rfl (z ys)
          | _ => cases hk
end
end K1

namespace K1
open PySem PySem.Spec PyProof.Rows L2
section
variable {K : PySem.W.Frag} {H H' : Hp}
/-! ### more of the data -/
theorem dp_pair {y : V} {p q : PV} (h : Dp K H y (toD (.tup [p, q]))) : ∃ t v u, y = .ref t ∧ SqT K H t [v, u] ∧ Dp K H v (toD p) ∧ Dp K H u (toD q) := by
  obtain ⟨t, xs, rfl, h1, h2⟩ := dp_tup h
  simp only [toDs] at h2
  cases h2 with
  | cons a h2 =>
    cases h2 with
    | cons b h2 =>
      cases h2
      exact ⟨t, _, _, rfl, h1, a, b⟩
theorem mk_pair {t : Addr} {v u : V} {p q : PV} (h : SqT K H t [v, u]) (a : Dp K H v (toD p)) (b : Dp K H u (toD q)) : Dp K H (.ref t) (toD (.tup [p, q])) := by
  refine dp_mk h ?_
  simp only [toDs]
  exact .cons a (.cons b .nil)
theorem tups_upd {a : Addr} {ys : List V} {o : HO} (h : H a = some (.lst ys)) : Tups H (upd H a o) := fun b xs =>
  ⟨fun q => by rw [upd_ne (ne_of q h (by intro z; cases z))]; exact q, fun o q => by rw [upd_ne (ne_of q h (by intro z; cases z))]; exact q⟩
theorem tups_new {a : Addr} {o : HO} (h : H a = none) : Tups H (upd H a o) := Tups.same (same_upd h)
theorem Tups.trans {H1 H2 H3 : Hp} (a : Tups H1 H2) (b : Tups H2 H3) : Tups H1 H3 := fun c xs => ⟨fun q => (b c xs).1 ((a c xs).1 q), fun o q => (b c xs).2 o ((a c xs).2 o q)⟩
theorem same_put {a : Addr} {o : HO} (s : Same H H') (h : H a = none) : Same H (upd H' a o) := fun b u q => by
  rw [upd_ne (ne_of_none q h)]
  exact s b u q
theorem dps_of : ∀ {vs : List V} {ps : List PV}, vs.length = ps.length → (∀ (j : Nat) (v : V) (p : PV), vs[j]? = some v → ps[j]? = some p → Dp K H v (toD p)) → DpAll K H vs (toDs ps)
  | [], [], _, _ => by simp only [toDs]; exact .nil
  | [], _ :: _, e, _ => by cases e
  | _ :: _, [], e, _ => by cases e
  | v :: vs, p :: ps, e, h => by
    simp only [toDs]
    exact .cons (h 0 v p rfl rfl) (dps_of (Nat.succ.inj e) fun j v' p' h1 h2 => h (j + 1) v' p' (by simpa using h1) (by simpa using h2))
theorem dps_rev {vs : List V} {ps : List PV} (h : DpAll K H vs (toDs ps)) : DpAll K H vs.reverse (toDs ps.reverse) := by
  have hl := dps_len h
  refine dps_of (by rw [List.length_reverse, List.length_reverse, hl]) fun j v p h1 h2 => ?_
  have l1 : j < vs.length := by
    have := (List.getElem?_eq_some_iff.mp h1).1
    simpa using this
  rw [List.getElem?_reverse l1] at h1
  rw [List.getElem?_reverse (by omega)] at h2
  obtain ⟨p', e, d⟩ := dps_get h h1
  rw [← hl, e] at h2
  rw [← Option.some.inj h2]
  exact d
theorem dps_last {xs : List V} {ps : List PV} {p : PV} (h : DpAll K H xs (toDs (ps ++ [p]))) : ∃ ys y, xs = ys ++ [y] ∧ DpAll K H ys (toDs ps) ∧ Dp K H y (toD p) := by
  have hl := dps_len h
  rw [List.length_append, List.length_singleton] at hl
  have a := dps_take ps.length h
  have b := dps_drop ps.length h
  rw [List.take_left' rfl] at a
  rw [List.drop_left' rfl] at b
  simp only [toDs] at b
  generalize e : xs.drop ps.length = l at b
  cases b with
  | cons b1 b2 =>
    cases b2
    refine ⟨xs.take ps.length, _, ?_, a, b1⟩
    rw [← e, List.take_append_drop]
theorem dp_lst {a : Addr} {xs : List V} {ps : List PV} (h : SqL K H a xs) (g : DpAll K H xs (toDs ps)) : Dp K H (.ref a) (.list (toDs ps)) := .lst h g
theorem shaped_lst {ps : List PV} (h : goods ps) (hn : nests ps ≤ 60) : SeqAt.shaped (.list (toDs ps)) = true := by
  unfold SeqAt.shaped
  have d : (PyData.list (toDs ps)).depth = nests ps + 1 := by simp only [PyData.depth]; rw [dep_toDs]
  have c : (PyData.list (toDs ps)).canLay0 = true := by simp only [PyData.canLay0]; exact can_toDs ps h
  rw [c, d, decide_eq_true (by omega)]
  rfl
theorem shaped_nil : SeqAt.shaped (.list []) = true := by decide +kernel
theorem eqv_nil : ∀ ps : List PV, PyData.eqv (.list (toDs ps)) (.list []) = ps.isEmpty
  | [] => by simp only [toDs, PyData.eqv, PyData.eqvAll]; rfl
  | _ :: _ => by simp only [toDs, PyData.eqv, PyData.eqvAll]; rfl
/-- «xs != []», the items plain -/
theorem not_nil {a q : Addr} {xs : List V} {ps : List PV} {Q : VK} (hq : H q = none) (h : SqL K H a xs) (g : DpAll K H xs (toDs ps)) (hg : goods ps) (hn : nests ps ≤ 60) (k : Q (.bl (!ps.isEmpty)) (upd H q (.lst []))) :
    rNeD K (.ref a) (.ref q) (upd H q (.lst [])) Q := by
  refine ⟨_, .list [], dp_lst ((same_upd hq).seq h) (dps_tups (tups_new hq) _ g), .lst (SqL.of upd_same) .nil, shaped_lst hg hn, shaped_nil, ?_⟩
  rw [eqv_nil]
  exact k
end

/-! ### is_plain's pile -/
def pl (e : PV × Nat) : PV := .tup [e.1, .int e.2]
def wt (es : List (PV × Nat)) : Nat := szs (es.map (·.1))
theorem wt_app (a b : List (PV × Nat)) : wt (a ++ b) = wt a + wt b := by unfold wt; rw [List.map_append, szs_app]
theorem wt_len (a : List (PV × Nat)) : a.length ≤ wt a := by
  have := szs_len (a.map (·.1))
  unfold wt
  simpa using this
structure PileOk (es : List (PV × Nat)) : Prop where
  gd : ∀ e ∈ es, good e.1
  nt : ∀ e ∈ es, nest e.1 + e.2 ≤ 12
theorem PileOk.goods {es : List (PV × Nat)} (h : PileOk es) : goods (es.map pl) := goods_mem.mpr fun x hx => by
  obtain ⟨e, he, rfl⟩ := List.mem_map.mp hx
  have := h.nt e he
  simp only [pl, good, K1.goods]
  exact ⟨h.gd e he, ⟨by omega, by omega⟩, trivial⟩
theorem PileOk.nests {es : List (PV × Nat)} (h : PileOk es) : nests (es.map pl) ≤ 13 := nests_le fun x hx => by
  obtain ⟨e, he, rfl⟩ := List.mem_map.mp hx
  have := h.nt e he
  simp only [pl, nest, K1.nests]
  omega
section
variable {P : Program} {w : World} {K : PySem.W.Frag} {mg : Str → Option Value} {base : Heap} {f : Addr} {fd : FuncData}
def spPlain (K : PySem.W.Frag) : Sp := fun vs H Q _ => ∃ (v : V) (p : PV), vs = [v] ∧ Dp K H v (toD p) ∧ good p ∧ nest p ≤ 12 ∧ sz p ≤ 100000 ∧ ∀ H', Same H H' → Q (.bl true) H'
theorem scPlain : FnScope ["value", "pile", "here", "deep", "member"] ["value"] (defScope sPlain) := ⟨rfl, rfl, rfl, by decide +kernel, rfl, by decide +kernel, by decide +kernel⟩
theorem ok_plain (F : Fun K "is_plain" "is_plain" sPlain f fd) (T : Txt mg) (C : Cal P w K mg base 3 "is_atom" (spAtom K)) : FnOk P w K mg base CX0 4 f fd ["value"] (spPlain K) := by
  obtain ⟨f1, fd1, ps1, G1, m1, k1, b1⟩ := C
  obtain ⟨tN, mN⟩ := T.nestMax
  refine F.ok scPlain (fun vs H Q E h => ?_) (fun cdv A outer s H vs Q E hr h => ?_)
  · obtain ⟨v, p, rfl, _⟩ := h
    rfl
  obtain ⟨v, p, rfl, hd, hg, hn, hs, q⟩ := h
  have hu := hr.units
  refine ⟨_, pss_cons (ps_set (i := 1) scPlain.nd rfl (.inl rfl) (pe_lst (pa_cons (pe_tup (pa_cons (pv 0) (pa_cons pe_int pa_nil))) pa_nil)))
    (pss_cons (ps_while PassesOwn.never (pt_cmpR (op_neD hu) (pv 1) (pe_lst pa_nil) (nomark _))
      (pss_cons (ps_asg (pe_bm0 PySem.F.plainAttrs_list PySem.F.slot_list_pop PySem.F.type_list_pop mt_pop (pv 1)) (pg_tup (by rfl) (pgs_cons (pg_name (i := 2) scPlain.nd rfl (.inl rfl)) (pgs_cons (pg_name (i := 3) scPlain.nd rfl (.inr rfl)) pgs_nil))))
      (pss_one (ps_if (pt_val (pe_isP (.inr (.inr (.inl rfl))) (by rfl) T.isi (by rfl) T.ttup (by decide +kernel) (pv 2)))
        (pss_cons (ps_if (pt_cmpR op_eq (pv 3) (pe_glob (v := .int 12) (by rfl) mN ⟨_, rfl⟩) (nomark _)) (pss_one (ps_ret pe_bl)) pss_nil)
        (pss_one (ps_expr (pe_bm PySem.F.plainAttrs_list PySem.F.slot_list_extend PySem.F.type_list_extend mt_extend (pv 1) (pa_cons
          (pe_lc (own := [("member", 4)]) (g := gName 4) (tt := tYes) (by rfl) scPlain.nd (pi_tup (pv 2)) (blkOk_by (own := [("member", 4)]) (N := ["value", "pile", "here", "deep", "member"]) (sc := defScope sPlain) (by decide +kernel))
            (fun _ _ _ _ _ => pg_name (i := 4) scPlain.nd rfl (Or.inl rfl)) (fun _ _ _ _ _ => pts_nil) (fun _ _ _ _ _ => pe_tup (pa_cons (pv 4) (pa_cons (pe_op op_add (pv 3) pe_int) pa_nil)))) pa_nil)))))
        (pss_one (ps_if (pt_not (pt_val (pe_call G1 hr (by rfl) m1 k1 b1 .nil pass0 (pa_cons (pv 2) pa_nil)))) (pss_one (ps_ret pe_bl)) pss_nil))))))
    (pss_one (ps_ret pe_bl))), ?_⟩
  -- pile = [(value, 0)]
  refine ⟨_, rfl, (by show 2 ≤ sizeLine; decide), fun t ht => ⟨(by show 1 ≤ sizeLine; decide), fun a ha => ?_⟩⟩
  have s1 : Same H (upd (upd H t (.tup [v, .int 0])) a (.lst [.ref t])) := (same_upd ht).trans (same_upd ha)
  have ha0 : H a = none := (same_upd ht).free ha
  have d1 : Dp K (upd (upd H t (.tup [v, .int 0])) a (.lst [.ref t])) (.ref t) (toD (pl (p, 0))) := by
    refine mk_pair (SqT.of ?_) (dp_tups (Tups.same s1) p hd) (dp_int 0)
    exact same_upd ha _ _ upd_same
  -- while pile != []
  refine ⟨fun m σ H' => ∃ (es : List (PV × Nat)) (xs : List V) (y2 y3 y4 : Option V), σ = [some v, some (.ref a), y2, y3, y4] ∧ m = wt es ∧ PileOk es ∧ wt es ≤ 100000 ∧ Same H H' ∧ H' a = some (.lst xs) ∧ DpAll K H' xs (toDs (es.map pl)),
    ⟨wt [(p, 0)], [(p, 0)], [.ref t], none, none, none, rfl, rfl, ⟨fun e he => by rw [List.mem_singleton.mp he]; exact hg, fun e he => by rw [List.mem_singleton.mp he]; exact hn⟩, by unfold wt; simp only [List.map_cons, List.map_nil, szs]; omega, s1, upd_same, dps_one d1⟩, fun m σ H' hW => ?_⟩
  obtain ⟨es, xs, y2, y3, y4, rfl, rfl, ok, hw, sm, ea, dx⟩ := hW
  refine ⟨_, rfl, Nat.zero_le _, fun l hl => ?_⟩
  refine not_nil hl (SqL.of ea) dx ok.goods (Nat.le_trans ok.nests (by decide)) ⟨_, rfl, ?_⟩
  have nal : a ≠ l := ne_of_none ea hl
  have ea1 : (upd H' l (.lst [])) a = some (.lst xs) := by rw [upd_ne nal]; exact ea
  have dx1 := dps_tups (tups_new (o := .lst []) hl) _ dx
  have sm1 : Same H (upd H' l (.lst [])) := sm.trans (same_upd hl)
  generalize upd H' l (.lst []) = H1 at ea1 dx1 sm1 ⊢
  refine ite2 (fun c => ?_) (fun c => ?_)
  · -- a turn
    obtain ⟨es0, e, rfl⟩ : ∃ es0 e, es = es0 ++ [e] := by
      rcases List.eq_nil_or_concat es with z | ⟨l, b, z⟩
      · subst z
        cases c
      · exact ⟨l, b, by rw [z, List.concat_eq_append]⟩
    refine ⟨fun σ' H2 => ∃ m', m' < wt (es0 ++ [e]) ∧ ∃ (es : List (PV × Nat)) (xs : List V) (y2 y3 y4 : Option V), σ' = [some v, some (.ref a), y2, y3, y4] ∧ m' = wt es ∧ PileOk es ∧ wt es ≤ 100000 ∧ Same H H2 ∧ H2 a = some (.lst xs) ∧ DpAll K H2 xs (toDs (es.map pl)), fun σ' H2 h => h, ?_⟩
    rw [List.map_append] at dx1
    obtain ⟨ys, y, rfl, dy, dl⟩ := dps_last dx1
    obtain ⟨t2, hv, u2, rfl, ht2, dh, du⟩ := dp_pair dl
    obtain rfl := dp_int' du
    have okE : good e.1 ∧ nest e.1 + e.2 ≤ 12 := ⟨ok.gd e (by simp), ok.nt e (by simp)⟩
    have ok0 : PileOk es0 := ⟨fun x hx => ok.gd x (by simp [hx]), fun x hx => ok.nt x (by simp [hx])⟩
    have wE : wt (es0 ++ [e]) = wt es0 + sz e.1 := by
      rw [wt_app]
      unfold wt
      simp only [List.map_cons, List.map_nil, szs]
      omega
    have pz := sz_pos e.1
    have T1 : Tups H1 (upd H1 a (.lst ys)) := tups_upd ea1
    refine ⟨_, rfl, .inl ⟨rfl, _, SqL.of ea1⟩, a, ys ++ [.ref t2], .ref t2, rfl, rfl, ea1, by simp, ?_⟩
    rw [show (ys ++ [V.ref t2]).dropLast = ys by simp]
    refine ⟨t2, [hv, .int e.2], rfl, T1.seq ht2, rfl, hv, [.int e.2], rfl, .int e.2, [], rfl, rfl, ?_⟩
    have dh1 := dp_tups T1 _ dh
    have dy1 := dps_tups T1 _ dy
    have sm2 : Same H (upd H1 a (.lst ys)) := same_put sm1 ha0
    have ea2 : (upd H1 a (.lst ys)) a = some (.lst ys) := upd_same
    generalize upd H1 a (.lst ys) = H2 at dh1 dy1 sm2 ea2 ⊢
    -- if isinstance(here, tuple)
    by_cases ht : ∃ ps, e.1 = .tup ps
    · obtain ⟨ps, hps⟩ := ht
      rw [hps] at dh1 okE wE
      refine ⟨_, rfl, .tup ps, true, dh1, k_tt ps, true, rfl, iteT ?_⟩
      have hn1 := okE.2
      simp only [nest] at hn1
      refine ⟨_, rfl, rfl, _, rfl, ite2 (fun c2 => ?_) (fun _ => ?_)⟩
      · have z : (e.2 : Int) = 12 := V.int.inj (of_decide_eq_true c2)
        omega
      · obtain ⟨ta, zs, rfl, hta, dz⟩ := dp_tup dh1
        have lz := dps_len dz
        refine ⟨_, rfl, .inl ⟨rfl, _, SqL.of ea2⟩, _, rfl, ta, rfl, ⟨_, hta⟩, fun D hD => ?_⟩
        refine lc_tup (K := K) (a := ta) (xs := zs) (fun i H3 => ∃ acc, Same H2 H3 ∧ H3 D = some (.lst acc) ∧ DpAll K H3 acc (toDs ((ps.take i).map fun x => pl (x, e.2 + 1))))
          ⟨[], same_upd hD, upd_same, by rw [List.take_zero, List.map_nil]; simp only [toDs]; exact .nil⟩ (fun i H3 _ hP => ?_) (fun i x H3 hx hP => ?_) (fun H3 hP => ?_)
        · obtain ⟨acc, s3, _, _⟩ := hP
          exact (Tups.same s3).seq hta
        · obtain ⟨acc, s3, e3, d3⟩ := hP
          obtain ⟨x', hx', dx'⟩ := dps_get dz hx
          have li : i < ps.length := (List.getElem?_eq_some_iff.mp hx').1
          have lacc := dps_len d3
          rw [List.length_map, List.length_take] at lacc
          have szp := szs_len ps
          have wps : szs ps + 2 ≤ 100000 := by
            simp only [sz] at wE
            omega
          refine ⟨rfl, yes_lc ?_⟩
          refine ⟨_, rfl, _, rfl, _, _, rfl, rfl, (by show 2 ≤ sizeLine; decide), fun t4 ht4 => ?_⟩
          have nD : D ≠ t4 := ne_of_none e3 ht4
          refine ⟨acc, by rw [upd_ne nD]; exact e3, by rw [sizeLine_eq]; omega, acc ++ [.ref t4], ?_, upd_same, ?_⟩
          · refine same_put ?_ hD
            exact s3.trans (same_upd ht4)
          · have T4 : Tups H3 (upd (upd H3 t4 (.tup [x, .int (e.2 + 1)])) D (.lst (acc ++ [.ref t4]))) := (tups_new ht4).trans (tups_upd (by rw [upd_ne nD]; exact e3))
            have e5 : (ps.take (i + 1)).map (fun x => pl (x, e.2 + 1)) = (ps.take i).map (fun x => pl (x, e.2 + 1)) ++ [pl (x', e.2 + 1)] := by
              rw [List.take_add_one, hx', List.map_append]
              rfl
            rw [e5]
            refine dps_app (dps_tups T4 _ d3) (dps_one (mk_pair (SqT.of ?_) (dp_tups ((Tups.same s3).trans T4) _ dx') (dp_int _)))
            rw [upd_ne nD.symm, upd_same]
            rfl
        · obtain ⟨acc, s3, e3, d3⟩ := hP
          rw [List.take_of_length_le (by omega)] at d3
          have lacc := dps_len d3
          rw [List.length_map] at lacc
          have lys := dps_len dy1
          rw [List.length_map] at lys
          have szp := szs_len ps
          have wps : szs ps + 2 + wt es0 ≤ 100000 := by
            simp only [sz] at wE
            omega
          have wl := wt_len es0
          have nDa : a ≠ D := ne_of_none ea2 hD
          have ea3 : H3 a = some (.lst ys) := s3 _ _ ea2
          refine ⟨a, D, ys, acc, rfl, rfl, ea3, e3, by rw [sizeLine_eq]; omega, ?_⟩
          have T5 : Tups H3 (upd H3 a (.lst (ys ++ acc))) := tups_upd ea3
          have wN : wt (es0 ++ ps.map fun x => (x, e.2 + 1)) = wt es0 + szs ps := by
            rw [wt_app]
            unfold wt
            rw [List.map_map]
            have : ((fun x : PV × Nat => x.1) ∘ fun x => (x, e.2 + 1)) = id := rfl
            rw [this, List.map_id]
          refine ⟨_, ?_, es0 ++ ps.map fun x => (x, e.2 + 1), ys ++ acc, _, _, _, rfl, rfl, ⟨fun x hx => ?_, fun x hx => ?_⟩, by omega, same_put (sm2.trans s3) ha0, upd_same, ?_⟩
          · simp only [sz] at wE
            omega
          · rcases List.mem_append.mp hx with hx | hx
            · exact ok0.gd x hx
            · obtain ⟨z, hz, rfl⟩ := List.mem_map.mp hx
              exact goods_mem.mp (by simpa only [good] using okE.1) z hz
          · rcases List.mem_append.mp hx with hx | hx
            · exact ok0.nt x hx
            · obtain ⟨z, hz, rfl⟩ := List.mem_map.mp hx
              have := nests_mem hz
              show nest z + (e.2 + 1) ≤ 12
              omega
          · rw [List.map_append, List.map_map]
            exact dps_app (dps_tups ((Tups.same s3).trans T5) _ dy1) (dps_tups T5 _ d3)
    · have hk : kin e.1 "tuple" = false := by
        cases he : e.1 with
        | non => rfl
        | int i => exact k_it i
        | str x => exact k_st x
        | tup ps => exact absurd ⟨ps, he⟩ ht
      refine ⟨_, rfl, e.1, false, dh1, hk, false, rfl, iteF ?_⟩
      refine ⟨_, rfl, hv, e.1, rfl, dh1, okE.1, fun ps hp => ht ⟨ps, hp⟩, fun H3 s3 => ⟨true, rfl, iteF ?_⟩⟩
      exact ⟨_, by omega, es0, ys, _, _, _, rfl, rfl, ok0, by omega, sm2.trans s3, s3 _ _ ea2, dps_tups (Tups.same s3) _ dy1⟩
  · exact q _ sm1
end
end K1

namespace K1
open PySem PySem.Spec PyProof.Rows L2
/-! ### compared's pile -/
def pr (e : PV × PV) : PV := .tup [e.1, e.2]
def scan : List (PV × PV) → Ordering
  | [] => .eq
  | e :: r => (cmp e.1 e.2).then (scan r)
theorem then_assoc (a b c : Ordering) : (a.then b).then c = a.then (b.then c) := by cases a <;> rfl
theorem cmpI_less {i j : Int} (h : i < j) : cmpI i j = .lt := cmpI_lt.mpr h
theorem cmpI_more {i j : Int} (h : i < j) : cmpI j i = .gt := by
  rw [cmpI_swap, cmpI_less h]
  rfl
theorem scan_zip (r : List (PV × PV)) : ∀ (xs ys : List PV) (n : Nat), scan (xs.zip ys ++ (.int ((n + xs.length : Nat) : Int), .int ((n + ys.length : Nat) : Int)) :: r) = (cmpL xs ys).then (scan r)
  | [], [], n => by
    simp only [List.zip_nil_left, List.nil_append, scan, List.length_nil, cmp, cmpL, cmpI_refl]
  | [], y :: ys, n => by
    simp only [List.zip_nil_left, List.nil_append, scan, cmp, cmpL]
    rw [cmpI_less (by simp only [List.length_nil, List.length_cons]; omega)]
    try rfl
  | x :: xs, [], n => by
    simp only [List.zip_nil_right, List.nil_append, scan, cmp, cmpL]
    rw [cmpI_more (by simp only [List.length_nil, List.length_cons]; omega)]
    try rfl
  | x :: xs, y :: ys, n => by
    simp only [List.zip_cons_cons, List.cons_append, scan, cmpL]
    rw [then_assoc, ← scan_zip r xs ys (n + 1)]
    simp only [List.length_cons, show ∀ k, n + 1 + k = n + (k + 1) from fun k => by omega]
theorem scan_tups (r : List (PV × PV)) (xs ys : List PV) : scan (xs.zip ys ++ (.int (xs.length : Int), .int (ys.length : Int)) :: r) = scan ((.tup xs, .tup ys) :: r) := by
  have := scan_zip r xs ys 0
  simp only [Nat.zero_add] at this
  rw [this]
  simp only [scan, cmp]
def we : List (PV × PV) → Nat
  | [] => 0
  | e :: r => sz e.1 + sz e.2 + we r
theorem we_app : ∀ a b : List (PV × PV), we (a ++ b) = we a + we b
  | [], b => by simp only [List.nil_append, we]; omega
  | e :: a, b => by
    simp only [List.cons_append, we]
    rw [we_app a b]
    omega
theorem we_zip : ∀ xs ys : List PV, we (xs.zip ys) ≤ szs xs + szs ys
  | [], ys => by simp only [List.zip_nil_left, we]; omega
  | x :: xs, [] => by simp only [List.zip_nil_right, we]; omega
  | x :: xs, y :: ys => by
    have := we_zip xs ys
    simp only [List.zip_cons_cons, we, szs]
    omega
theorem we_len : ∀ a : List (PV × PV), a.length ≤ we a
  | [] => by simp
  | e :: a => by
    have := we_len a
    have := sz_pos e.1
    simp only [List.length_cons, we]
    omega
def Two (a : List (PV × PV)) : Prop := ∀ e ∈ a, good e.1 ∧ good e.2 ∧ nest e.1 ≤ 12 ∧ nest e.2 ≤ 12
theorem Two.goods {a : List (PV × PV)} (h : Two a) : goods (a.map pr) := goods_mem.mpr fun x hx => by
  obtain ⟨e, he, rfl⟩ := List.mem_map.mp hx
  have := h e he
  simp only [pr, good, K1.goods]
  exact ⟨this.1, this.2.1, trivial⟩
theorem Two.nests {a : List (PV × PV)} (h : Two a) : nests (a.map pr) ≤ 13 := nests_le fun x hx => by
  obtain ⟨e, he, rfl⟩ := List.mem_map.mp hx
  have := h e he
  simp only [pr, nest, K1.nests]
  omega
theorem Two.rev {a : List (PV × PV)} (h : Two a) : Two a.reverse := fun e he => h e (by simpa using he)
theorem zip_get {xs ys : List PV} {j : Nat} {e : PV × PV} (h : (xs.zip ys)[j]? = some e) : xs[j]? = some e.1 ∧ ys[j]? = some e.2 := by
  rw [List.getElem?_zip_eq_some] at h
  exact h
section
variable {P : Program} {w : World} {K : PySem.W.Frag} {mg : Str → Option Value} {base : Heap} {f : Addr} {fd : FuncData}
def spCompared (K : PySem.W.Frag) : Sp := fun vs H Q _ => ∃ (v u : V) (p q : PV), vs = [v, u] ∧ Dp K H v (toD p) ∧ Dp K H u (toD q) ∧ good p ∧ good q ∧ nest p ≤ 12 ∧ nest q ≤ 12 ∧ sz p ≤ 10000 ∧ sz q ≤ 10000 ∧ ∀ H', Same H H' → Q (.int (num (cmp p q))) H'
theorem scCompared : FnScope ["one", "other", "pile", "first", "last", "found"] ["one", "other"] (defScope sCompared) := ⟨rfl, rfl, rfl, by decide +kernel, rfl, by decide +kernel, by decide +kernel⟩
theorem ok_compared (F : Fun K "compared" "compared" sCompared f fd) (T : Txt mg) (C : Cal P w K mg base 2 "compared_atoms" (spAtoms K)) : FnOk P w K mg base CX0 3 f fd ["one", "other"] (spCompared K) := by
  obtain ⟨f1, fd1, ps1, G1, m1, k1, b1⟩ := C
  refine F.ok scCompared (fun vs H Q E h => ?_) (fun cdv A outer s H vs Q E hr h => ?_)
  · obtain ⟨v, u, p, q, rfl, _⟩ := h
    rfl
  obtain ⟨v, u, p, q, rfl, hp, hq, gp, gq, np, nq, zp, zq, k⟩ := h
  have hu := hr.units
  refine ⟨_, pss_cons (ps_set (i := 2) scCompared.nd rfl (.inl rfl) (pe_lst (pa_cons (pe_tup (pa_cons (pv 0) (pa_cons (pv 1) pa_nil))) pa_nil)))
    (pss_cons (ps_while PassesOwn.never (pt_cmpR (op_neD hu) (pv 2) (pe_lst pa_nil) (nomark _))
      (pss_cons (ps_asg (pe_bm0 PySem.F.plainAttrs_list PySem.F.slot_list_pop PySem.F.type_list_pop mt_pop (pv 2)) (pg_tup (by rfl) (pgs_cons (pg_name (i := 3) scCompared.nd rfl (.inl rfl)) (pgs_cons (pg_name (i := 4) scCompared.nd rfl (.inl rfl)) pgs_nil))))
      (pss_one (ps_if (PW.pt (pw_and (pt_val (pe_isP (.inr (.inr (.inl rfl))) (by rfl) T.isi (by rfl) T.ttup (by decide +kernel) (pv 3))) (pw_and1 (pt_val (pe_isP (.inr (.inr (.inl rfl))) (by rfl) T.isi (by rfl) T.ttup (by decide +kernel) (pv 4))))))
        (pss_cons (ps_expr (pe_bm PySem.F.plainAttrs_list PySem.F.slot_list_append PySem.F.type_list_append mt_append (pv 2) (pa_cons (pe_tup (pa_cons (pe_callB call_len_seq (by rfl) T.len PySem.boot_len (pa_cons (pv 3) pa_nil)) (pa_cons (pe_callB call_len_seq (by rfl) T.len PySem.boot_len (pa_cons (pv 4) pa_nil)) pa_nil))) pa_nil)))
        (pss_one (ps_expr (pe_bm PySem.F.plainAttrs_list PySem.F.slot_list_extend PySem.F.type_list_extend mt_extend (pv 2) (pa_cons (pe_revL (pe_zipL (by rfl) (by rfl) T.zip (pa_cons (pv 3) (pa_cons (pv 4) pa_nil)))) pa_nil)))))
        (pss_cons (ps_set (i := 5) scCompared.nd rfl (.inl rfl) (pe_call G1 hr (by rfl) m1 k1 b1 .nil pass0 (pa_cons (pv 3) (pa_cons (pv 4) pa_nil))))
          (pss_one (ps_if (pt_cmpR op_ne (pv 5) pe_int (nomark _)) (pss_one (ps_ret (pv 5))) pss_nil)))))))
    (pss_one (ps_ret pe_int))), ?_⟩
  refine ⟨_, rfl, _, rfl, (by show 2 ≤ sizeLine; decide), fun t ht => ⟨(by show 1 ≤ sizeLine; decide), fun a ha => ?_⟩⟩
  have s1 : Same H (upd (upd H t (.tup [v, u])) a (.lst [.ref t])) := (same_upd ht).trans (same_upd ha)
  have ha0 : H a = none := (same_upd ht).free ha
  have d1 : Dp K (upd (upd H t (.tup [v, u])) a (.lst [.ref t])) (.ref t) (toD (pr (p, q))) := by
    refine mk_pair (SqT.of ?_) (dp_tups (Tups.same s1) p hp) (dp_tups (Tups.same s1) q hq)
    exact same_upd ha _ _ upd_same
  refine ⟨fun m σ H' => ∃ (es : List (PV × PV)) (xs : List V) (y3 y4 y5 : Option V), σ = [some v, some u, some (.ref a), y3, y4, y5] ∧ m = we es ∧ Two es ∧ we es ≤ 20000 ∧ Same H H' ∧ H' a = some (.lst xs) ∧ DpAll K H' xs (toDs (es.reverse.map pr)) ∧ scan es = cmp p q,
    ⟨we [(p, q)], [(p, q)], [.ref t], none, none, none, rfl, rfl, fun e he => by rw [List.mem_singleton.mp he]; exact ⟨gp, gq, np, nq⟩, by simp only [we]; omega, s1, upd_same, dps_one d1, by simp only [scan]; cases cmp p q <;> rfl⟩, fun m σ H' hW => ?_⟩
  obtain ⟨es, xs, y3, y4, y5, rfl, rfl, ok, hw, sm, ea, dx, sc⟩ := hW
  refine ⟨_, rfl, Nat.zero_le _, fun l hl => ?_⟩
  refine not_nil hl (SqL.of ea) dx ok.rev.goods (Nat.le_trans ok.rev.nests (by decide)) ⟨_, rfl, ?_⟩
  have nal : a ≠ l := ne_of_none ea hl
  have ea1 : (upd H' l (.lst [])) a = some (.lst xs) := by rw [upd_ne nal]; exact ea
  have dx1 := dps_tups (tups_new (o := .lst []) hl) _ dx
  have sm1 : Same H (upd H' l (.lst [])) := sm.trans (same_upd hl)
  generalize upd H' l (.lst []) = H1 at ea1 dx1 sm1 ⊢
  cases es with
  | nil =>
    refine iteF ?_
    have e : cmp p q = .eq := by rw [← sc]; rfl
    rw [e] at k
    exact k _ sm1
  | cons e r =>
    have c : (!((e :: r).reverse.map pr).isEmpty) = true := by simp
    rw [c]
    refine iteT ⟨fun σ' H2 => ∃ m', m' < we (e :: r) ∧ ∃ (es : List (PV × PV)) (xs : List V) (y3 y4 y5 : Option V), σ' = [some v, some u, some (.ref a), y3, y4, y5] ∧ m' = we es ∧ Two es ∧ we es ≤ 20000 ∧ Same H H2 ∧ H2 a = some (.lst xs) ∧ DpAll K H2 xs (toDs (es.reverse.map pr)) ∧ scan es = cmp p q, fun σ' H2 h => h, ?_⟩
    rw [List.reverse_cons, List.map_append] at dx1
    obtain ⟨ys, y, rfl, dy, dl⟩ := dps_last dx1
    obtain ⟨t2, hv, u2, rfl, ht2, dh, du⟩ := dp_pair dl
    have okE := ok e (by simp)
    have okR : Two r := fun x hx => ok x (by simp [hx])
    have T1 : Tups H1 (upd H1 a (.lst ys)) := tups_upd ea1
    refine ⟨_, rfl, .inl ⟨rfl, _, SqL.of ea1⟩, a, ys ++ [.ref t2], .ref t2, rfl, rfl, ea1, by simp, ?_⟩
    rw [show (ys ++ [V.ref t2]).dropLast = ys by simp]
    refine ⟨t2, [hv, u2], rfl, T1.seq ht2, rfl, hv, [u2], rfl, u2, [], rfl, rfl, ?_⟩
    have dh1 := dp_tups T1 _ dh
    have du1 := dp_tups T1 _ du
    have dy1 := dps_tups T1 _ dy
    have sm2 : Same H (upd H1 a (.lst ys)) := same_put sm1 ha0
    have ea2 : (upd H1 a (.lst ys)) a = some (.lst ys) := upd_same
    generalize upd H1 a (.lst ys) = H2 at dh1 du1 dy1 sm2 ea2 ⊢
    have wE : we (e :: r) = sz e.1 + sz e.2 + we r := rfl
    have pz := sz_pos e.1
    -- what atoms do
    have part : atom e.1 ∨ atom e.2 → ∀ (D : Ends), D.nx = (fun σ' H2 => ∃ m', m' < we (e :: r) ∧ ∃ (es : List (PV × PV)) (xs : List V) (y3 y4 y5 : Option V), σ' = [some v, some u, some (.ref a), y3, y4, y5] ∧ m' = we es ∧ Two es ∧ we es ≤ 20000 ∧ Same H H2 ∧ H2 a = some (.lst xs) ∧ DpAll K H2 xs (toDs (es.reverse.map pr)) ∧ scan es = cmp p q) →
        num (cmp e.1 e.2) = 0 → ∀ y, D.nx [some v, some u, some (.ref a), some hv, some u2, some y] H2 := by
      intro _ D hD h0 y
      rw [hD]
      refine ⟨_, by omega, r, ys, _, _, _, rfl, rfl, okR, by omega, sm2, ea2, dy1, ?_⟩
      rw [← sc]
      simp only [scan]
      rw [num_zero h0]
      rfl
    by_cases ht1 : ∃ ps, e.1 = .tup ps
    · obtain ⟨ps, hps⟩ := ht1
      by_cases ht2 : ∃ qs, e.2 = .tup qs
      · obtain ⟨qs, hqs⟩ := ht2
        rw [hps] at dh1 okE wE
        rw [hqs] at du1 okE wE
        refine ⟨_, rfl, .tup ps, true, dh1, k_tt ps, true, rfl, iteT ?_⟩
        refine ⟨_, rfl, .tup qs, true, du1, k_tt qs, true, rfl, iteT ?_⟩
        obtain ⟨a1, xs1, rfl, hx1, dx1⟩ := dp_tup dh1
        obtain ⟨a2, xs2, rfl, hx2, dx2⟩ := dp_tup du1
        have l1 := dps_len dx1
        have l2 := dps_len dx2
        have z1 := szs_len ps
        have z2 := szs_len qs
        have wps : szs ps + 2 + (szs qs + 2) + we r ≤ 20000 := by
          simp only [sz] at wE
          omega
        have wl := we_len r
        have lys := dps_len dy1
        rw [List.length_map, List.length_reverse] at lys
        refine ⟨_, rfl, .inl ⟨rfl, _, SqL.of ea2⟩, _, rfl, a1, xs1, rfl, .inr hx1, _, rfl, a2, xs2, rfl, .inr hx2, (by show 2 ≤ sizeLine; decide), fun t3 ht3 => ?_⟩
        have na3 : a ≠ t3 := ne_of_none ea2 ht3
        refine ⟨a, ys, _, rfl, rfl, by rw [upd_ne na3]; exact ea2, by rw [sizeLine_eq]; omega, ?_⟩
        have T3 : Tups H2 (upd (upd H2 t3 (.tup [.int xs1.length, .int xs2.length])) a (.lst (ys ++ [.ref t3]))) := (tups_new ht3).trans (tups_upd (by rw [upd_ne na3]; exact ea2))
        have sm3 : Same H (upd (upd H2 t3 (.tup [.int xs1.length, .int xs2.length])) a (.lst (ys ++ [.ref t3]))) := same_put (sm2.trans (same_upd ht3)) ha0
        have ea3 : (upd (upd H2 t3 (.tup [.int xs1.length, .int xs2.length])) a (.lst (ys ++ [.ref t3]))) a = some (.lst (ys ++ [.ref t3])) := upd_same
        have d3 : Dp K (upd (upd H2 t3 (.tup [.int xs1.length, .int xs2.length])) a (.lst (ys ++ [.ref t3]))) (.ref t3) (toD (pr (.int ps.length, .int qs.length))) := by
          rw [← l1, ← l2]
          refine mk_pair (SqT.of ?_) (dp_int _) (dp_int _)
          rw [upd_ne na3.symm, upd_same]
        have hx1' := T3.seq hx1
        have hx2' := T3.seq hx2
        have dx1' := dps_tups T3 _ dx1
        have dx2' := dps_tups T3 _ dx2
        have dy3 := dps_tups T3 _ dy1
        generalize upd (upd H2 t3 (.tup [.int xs1.length, .int xs2.length])) a (.lst (ys ++ [.ref t3])) = H3 at T3 sm3 ea3 d3 hx1' hx2' dx1' dx2' dy3 ⊢
        refine ⟨_, rfl, .inl ⟨rfl, _, SqL.of ea3⟩, _, rfl, _, rfl, a1, a2, xs1, xs2, rfl, hx1', hx2', by rw [sizeLine_eq]; omega, fun D ts H4 s4 hD eD lt4 hts => ?_⟩
        refine ⟨D, _, rfl, SqL.of eD, fun D2 hD2 => ?_⟩
        have naD : a ≠ D := ne_of_none ea3 hD
        have ea4 : H4 a = some (.lst (ys ++ [.ref t3])) := s4 _ _ ea3
        have naD2 : a ≠ D2 := ne_of_none ea4 hD2
        refine ⟨a, D2, ys ++ [.ref t3], (ts.map V.ref).reverse, rfl, rfl, by rw [upd_ne naD2]; exact ea4, upd_same, by rw [List.length_append, List.length_reverse, List.length_map, List.length_singleton, sizeLine_eq]; omega, ?_⟩
        have T4 : Tups H4 (upd (upd H4 D2 (.lst (ts.map V.ref).reverse)) a (.lst (ys ++ [.ref t3] ++ (ts.map V.ref).reverse))) := (tups_new hD2).trans (tups_upd (by rw [upd_ne naD2]; exact ea4))
        have T34 := (Tups.same s4).trans T4
        have dz : DpAll K H4 (ts.map V.ref) (toDs ((ps.zip qs).map pr)) := by
          refine dps_of (by rw [List.length_map, List.length_map, List.length_zip, lt4, l1, l2]) fun j x z hx hz => ?_
          rw [List.getElem?_map] at hx hz
          obtain ⟨tt, htt, rfl⟩ := Option.map_eq_some_iff.mp hx
          obtain ⟨ee, hee, rfl⟩ := Option.map_eq_some_iff.mp hz
          obtain ⟨he1, he2⟩ := zip_get hee
          have j1 : j < xs1.length := by
            have := (List.getElem?_eq_some_iff.mp he1).1
            omega
          have j2 : j < xs2.length := by
            have := (List.getElem?_eq_some_iff.mp he2).1
            omega
          obtain ⟨p1, hp1, dp1⟩ := dps_get dx1' (List.getElem?_eq_getElem j1)
          obtain ⟨p2, hp2, dp2⟩ := dps_get dx2' (List.getElem?_eq_getElem j2)
          rw [he1] at hp1
          rw [he2] at hp2
          have hh := hts j tt _ _ htt (List.getElem?_eq_getElem j1) (List.getElem?_eq_getElem j2)
          refine mk_pair (SqT.of hh) (dp_tups (Tups.same s4) _ ?_) (dp_tups (Tups.same s4) _ ?_)
          · rw [Option.some.inj hp1]
            exact dp1
          · rw [Option.some.inj hp2]
            exact dp2
        have wz := we_zip ps qs
        have wN : we (ps.zip qs ++ (.int ps.length, .int qs.length) :: r) = we (ps.zip qs) + (1 + 1 + we r) := by
          rw [we_app]
          rfl
        refine ⟨_, ?_, ps.zip qs ++ (.int ps.length, .int qs.length) :: r, _, _, _, _, rfl, rfl, fun x hx => ?_, by omega, ?_, upd_same, ?_, ?_⟩
        · simp only [sz] at wE
          omega
        · rcases List.mem_append.mp hx with hx | hx
          · obtain ⟨m1, m2⟩ := List.of_mem_zip hx
            have g1 := goods_mem.mp (by simpa only [good] using okE.1) _ m1
            have g2 := goods_mem.mp (by simpa only [good] using okE.2.1) _ m2
            have n1 := nests_mem m1
            have n2 := nests_mem m2
            have o3 := okE.2.2.1
            have o4 := okE.2.2.2
            simp only [nest] at o3 o4
            exact ⟨g1, g2, by omega, by omega⟩
          · rcases List.mem_cons.mp hx with rfl | hx
            · simp only [good, nest]
              exact ⟨⟨by omega, by omega⟩, ⟨by omega, by omega⟩, by omega, by omega⟩
            · exact okR x hx
        · exact same_put ((sm3.trans s4).trans (same_upd hD2)) ha0
        · rw [List.reverse_append, List.reverse_cons, List.map_append, List.map_append, List.map_cons, List.map_nil, List.map_reverse (l := ps.zip qs)]
          exact dps_app (dps_app (dps_tups T34 _ dy3) (dps_one (dp_tups T34 _ d3))) (dps_tups T4 _ (dps_rev dz))
        · rw [scan_tups, ← sc]
          simp only [scan]
          rw [hps, hqs]
      · have hk : kin e.2 "tuple" = false := by
          cases he : e.2 with
          | non => rfl
          | int i => exact k_it i
          | str x => exact k_st x
          | tup ps => exact absurd ⟨ps, he⟩ ht2
        refine ⟨_, rfl, e.1, true, dh1, by rw [hps]; exact k_tt ps, true, rfl, iteT ?_⟩
        refine ⟨_, rfl, e.2, false, du1, hk, false, rfl, iteF ?_⟩
        have at2 : atom e.1 ∨ atom e.2 := .inr fun ps hp => ht2 ⟨ps, hp⟩
        refine ⟨_, rfl, _, rfl, hv, u2, e.1, e.2, rfl, dh1, du1, okE.1, okE.2.1, okE.2.2.1, okE.2.2.2, at2, ?_⟩
        refine ⟨_, rfl, rfl, _, rfl, ite2 (fun c => ?_) (fun c => ?_)⟩
        · have hne : num (cmp e.1 e.2) ≠ 0 := fun z => by
            rw [z, decide_eq_true rfl] at c
            cases c
          have e2 : cmp e.1 e.2 = cmp p q := by
            rw [← sc]
            simp only [scan]
            cases h : cmp e.1 e.2 with
            | eq => rw [h] at hne; exact absurd rfl hne
            | lt => rfl
            | gt => rfl
          rw [e2]
          exact ⟨_, rfl, k _ sm2⟩
        · refine part at2 _ rfl ?_ _
          by_cases z : num (cmp e.1 e.2) = 0
          · exact z
          · exact absurd (show (!decide (V.int (num (cmp e.1 e.2)) = V.int 0)) = true from by rw [decide_eq_false (fun y => z (V.int.inj y))]; rfl) c
    · have hk : kin e.1 "tuple" = false := by
        cases he : e.1 with
        | non => rfl
        | int i => exact k_it i
        | str x => exact k_st x
        | tup ps => exact absurd ⟨ps, he⟩ ht1
      refine ⟨_, rfl, e.1, false, dh1, hk, false, rfl, iteF ?_⟩
      have at2 : atom e.1 ∨ atom e.2 := .inl fun ps hp => ht1 ⟨ps, hp⟩
      refine ⟨_, rfl, _, rfl, hv, u2, e.1, e.2, rfl, dh1, du1, okE.1, okE.2.1, okE.2.2.1, okE.2.2.2, at2, ?_⟩
      refine ⟨_, rfl, rfl, _, rfl, ite2 (fun c => ?_) (fun c => ?_)⟩
      · have hne : num (cmp e.1 e.2) ≠ 0 := fun z => by
          rw [z, decide_eq_true rfl] at c
          cases c
        have e2 : cmp e.1 e.2 = cmp p q := by
          rw [← sc]
          simp only [scan]
          cases h : cmp e.1 e.2 with
          | eq => rw [h] at hne; exact absurd rfl hne
          | lt => rfl
          | gt => rfl
        rw [e2]
        exact ⟨_, rfl, k _ sm2⟩
      · refine part at2 _ rfl ?_ _
        by_cases z : num (cmp e.1 e.2) = 0
        · exact z
        · exact absurd (show (!decide (V.int (num (cmp e.1 e.2)) = V.int 0)) = true from by rw [decide_eq_false (fun y => z (V.int.inj y))]; rfl) c
end
end K1

namespace K1
open PySem PySem.Spec PyProof.Rows L2
/-! ### merged -/
def easy (p : PV) : Prop := good p ∧ nest p ≤ 12 ∧ sz p ≤ 10000
def Step (ps qs : List PV) (i j : Nat) : Ordering → Prop
  | .lt => ∃ p, ps[i]? = some p ∧ mrg (ps.drop i) (qs.drop j) = p :: mrg (ps.drop (i + 1)) (qs.drop j)
  | .eq => ∃ p, ps[i]? = some p ∧ j < qs.length ∧ mrg (ps.drop i) (qs.drop j) = p :: mrg (ps.drop (i + 1)) (qs.drop (j + 1))
  | .gt => ∃ q, qs[j]? = some q ∧ mrg (ps.drop i) (qs.drop j) = q :: mrg (ps.drop i) (qs.drop (j + 1))
theorem drop_cons {l : List PV} {i : Nat} {p : PV} (h : l[i]? = some p) : l.drop i = p :: l.drop (i + 1) := by
  obtain ⟨hi, e⟩ := List.getElem?_eq_some_iff.mp h
  rw [List.drop_eq_getElem_cons hi, e]
theorem step_both {ps qs : List PV} {i j : Nat} {p q : PV} (hp : ps[i]? = some p) (hq : qs[j]? = some q) : Step ps qs i j (cmp p q) := by
  have hj := (List.getElem?_eq_some_iff.mp hq).1
  have e := mrg_cons p q (ps.drop (i + 1)) (qs.drop (j + 1))
  cases c : cmp p q with
  | lt =>
    rw [c] at e
    exact ⟨p, hp, by rw [drop_cons hp, drop_cons hq, e]⟩
  | eq =>
    rw [c] at e
    exact ⟨p, hp, hj, by rw [drop_cons hp, drop_cons hq, e]⟩
  | gt =>
    rw [c] at e
    exact ⟨q, hq, by rw [drop_cons hp, drop_cons hq, e]⟩
theorem step_right {ps qs : List PV} {i j : Nat} {q : PV} (hi : i = ps.length) (hq : qs[j]? = some q) : Step ps qs i j .gt := by
  refine ⟨q, hq, ?_⟩
  rw [hi, List.drop_length, nil_mrg, nil_mrg, drop_cons hq]
theorem step_left {ps qs : List PV} {i j : Nat} {p : PV} (hj : j = qs.length) (hp : ps[i]? = some p) : Step ps qs i j .lt := by
  refine ⟨p, hp, ?_⟩
  rw [hj, List.drop_length, mrg_nil, mrg_nil, drop_cons hp]
theorem pick_q {R : Ordering → Hp → Prop} {G : VK → Prop} {Q : VK} (k : ∀ o H2, R o H2 → Q (.int (num o)) H2) (g : ∀ Q : VK, (∀ o H2, R o H2 → Q (.int (num o)) H2) → G Q) : G Q := g Q k
theorem pick_b {G : (Bool → Hp → Prop) → Prop} {Q : Bool → Hp → Prop} {H : Hp} {p : Prop} (k1 : p → Q true H) (k0 : ¬ p → Q false H) (g : ∀ Q : Bool → Hp → Prop, (p → Q true H) → (¬ p → Q false H) → G Q) : G Q := g Q k1 k0
theorem dps_at {K : PySem.W.Frag} {H : Hp} {vs : List V} {ps : List PV} {i : Nat} {p : PV} (h : DpAll K H vs (toDs ps)) (e : ps[i]? = some p) : ∃ v, vs[i]? = some v ∧ Dp K H v (toD p) := by
  have hi := (List.getElem?_eq_some_iff.mp e).1
  have hl := dps_len h
  obtain ⟨p', e', d⟩ := dps_get h (List.getElem?_eq_getElem (show i < vs.length by omega))
  rw [e] at e'
  exact ⟨_, List.getElem?_eq_getElem (show i < vs.length by omega), by rw [Option.some.inj e']; exact d⟩
section
variable {P : Program} {w : World} {K : PySem.W.Frag} {mg : Str → Option Value} {base : Heap} {f : Addr} {fd : FuncData}
def spMerged (K : PySem.W.Frag) : Sp := fun vs H Q _ => ∃ (a b : Addr) (xs ys : List V) (ps qs : List PV), vs = [.ref a, .ref b] ∧ SqL K H a xs ∧ SqL K H b ys ∧ DpAll K H xs (toDs ps) ∧ DpAll K H ys (toDs qs) ∧ (∀ p ∈ ps, easy p) ∧ (∀ q ∈ qs, easy q) ∧ ps.length + qs.length ≤ 1000 ∧
  ∀ (D : Addr) (H' : Hp) (out : List V), Same H H' → H D = none → H' D = some (.lst out) → DpAll K H' out (toDs (mrg ps qs)) → Q (.ref D) H'
theorem scMerged : FnScope ["one", "other", "found", "at", "to", "order"] ["one", "other"] (defScope sMerged) := ⟨rfl, rfl, rfl, by decide +kernel, rfl, by decide +kernel, by decide +kernel⟩
theorem ok_merged (F : Fun K "merged" "merged" sMerged f fd) (T : Txt mg) (C : Cal P w K mg base 3 "compared" (spCompared K)) : FnOk P w K mg base CX0 4 f fd ["one", "other"] (spMerged K) := by
  obtain ⟨f1, fd1, ps1, G1, m1, k1, b1⟩ := C
  refine F.ok scMerged (fun vs H Q E h => ?_) (fun cdv A outer s H vs Q E hr h => ?_)
  · obtain ⟨a, b, xs, ys, ps, qs, rfl, _⟩ := h
    rfl
  obtain ⟨a, b, xs, ys, ps, qs, rfl, ha, hb, da, db, ea, eb, hz, k⟩ := h
  have hu := hr.units
  refine ⟨_, pss_cons (ps_par3 (i := 2) (j := 3) (l := 4) (by rfl) scMerged.nd rfl rfl rfl (by decide) (by decide) (by decide) rfl rfl rfl (pa_cons (pe_lst pa_nil) (pa_cons pe_int (pa_cons pe_int pa_nil))) (by rfl))
    (pss_cons (ps_while PassesOwn.never (PW.pt (pw_or (pt_cmpR op_lt (pv 3) (pe_callB call_len_seq (by rfl) T.len PySem.boot_len (pa_cons (pv 0) pa_nil)) (nomark _)) (pw_or1 (pt_cmpR op_lt (pv 4) (pe_callB call_len_seq (by rfl) T.len PySem.boot_len (pa_cons (pv 1) pa_nil)) (nomark _)))))
      (pss_cons (ps_set (i := 5) scMerged.nd rfl (.inl rfl) (pe_ifExp (pt_cmpR op_eq (pv 3) (pe_callB call_len_seq (by rfl) T.len PySem.boot_len (pa_cons (pv 0) pa_nil)) (nomark _)) pe_int
          (pe_ifExp (pt_cmpR op_eq (pv 4) (pe_callB call_len_seq (by rfl) T.len PySem.boot_len (pa_cons (pv 1) pa_nil)) (nomark _)) (pe_un un_neg pe_int)
            (pe_call G1 hr (by rfl) m1 k1 b1 .nil pass0 (pa_cons (pe_ix ix_list (pv 0) (pv 3) (fun _ _ => rfl)) (pa_cons (pe_ix ix_list (pv 1) (pv 4) (fun _ _ => rfl)) pa_nil))))))
      (pss_cons (ps_expr (pe_bm PySem.F.plainAttrs_list PySem.F.slot_list_append PySem.F.type_list_append mt_append (pv 2) (pa_cons (pe_ifExp (pt_cmpR op_le (pv 5) pe_int (nomark _)) (pe_ix ix_list (pv 0) (pv 3) (fun _ _ => rfl)) (pe_ix ix_list (pv 1) (pv 4) (fun _ _ => rfl))) pa_nil)))
      (pss_one (ps_par (i := 3) (j := 4) (by rfl) scMerged.nd rfl rfl (by decide) rfl rfl (pa_cons (pe_op op_add (pv 3) (pe_callTy call_int1 (by rfl) T.tint (by decide +kernel) (pa_cons (pe_cmpR op_le (pv 5) pe_int (nomark _)) pa_nil)))
        (pa_cons (pe_op op_add (pv 4) (pe_callTy call_int1 (by rfl) T.tint (by decide +kernel) (pa_cons (pe_cmpR op_ge (pv 5) pe_int (nomark _)) pa_nil))) pa_nil)) (by rfl))))))
    (pss_one (ps_ret (pv 2)))), ?_⟩
  refine ⟨Nat.zero_le _, fun D hD => ⟨_, _, _, rfl, ?_⟩⟩
  refine ⟨fun m σ H' => ∃ (i j : Nat) (gs : List PV) (out : List V) (y5 : Option V), σ = [some (.ref a), some (.ref b), some (.ref D), some (.int (i : Int)), some (.int (j : Int)), y5] ∧ m = (ps.length - i) + (qs.length - j) ∧ i ≤ ps.length ∧ j ≤ qs.length ∧ Same H H' ∧ H' D = some (.lst out) ∧ DpAll K H' out (toDs gs) ∧ gs ++ mrg (ps.drop i) (qs.drop j) = mrg ps qs,
    ⟨_, 0, 0, [], [], none, rfl, rfl, Nat.zero_le _, Nat.zero_le _, same_upd hD, upd_same, by simp only [toDs]; exact .nil, by rw [List.drop_zero, List.drop_zero, List.nil_append]⟩, fun m σ H' hW => ?_⟩
  obtain ⟨i, j, gs, out, y5, rfl, rfl, hi, hj, sm, eD, dD, inv⟩ := hW
  have la := dps_len da
  have lb := dps_len db
  have lg := dps_len dD
  have lm := len_mrg ps qs
  have lg2 : gs.length ≤ ps.length + qs.length := by
    have e := congrArg List.length inv
    rw [List.length_append] at e
    omega
  have ha' := Same.seq sm ha
  have hb' := Same.seq sm hb
  change tOr _ _ _ _ _
  refine pick_b (H := H') (p := i < ps.length ∨ j < qs.length) (fun c => ?_) (fun c => ?_) (fun Q k1 k0 => ?_)
  · refine iteT ⟨fun σ' H' => ∃ m', m' < (ps.length - i) + (qs.length - j) ∧ ∃ (i j : Nat) (gs : List PV) (out : List V) (y5 : Option V), σ' = [some (.ref a), some (.ref b), some (.ref D), some (.int (i : Int)), some (.int (j : Int)), y5] ∧ m' = (ps.length - i) + (qs.length - j) ∧ i ≤ ps.length ∧ j ≤ qs.length ∧ Same H H' ∧ H' D = some (.lst out) ∧ DpAll K H' out (toDs gs) ∧ gs ++ mrg (ps.drop i) (qs.drop j) = mrg ps qs, fun _ _ h => h, ?_⟩
    change tIf _ _ _ _ _ _
    refine pick_q (R := fun o H2 => Same H' H2 ∧ Step ps qs i j o) (fun o H2 hR => ?_) (fun Q kq => ?_)
    · obtain ⟨s2, st⟩ := hR
      have ha2 := Same.seq s2 ha'
      have hb2 := Same.seq s2 hb'
      have da2 := dps_tups (Tups.same (sm.trans s2)) _ da
      have db2 := dps_tups (Tups.same (sm.trans s2)) _ db
      have dD2 := dps_tups (Tups.same s2) _ dD
      have eD2 := s2 _ _ eD
      have sm2 := sm.trans s2
      have T5 : ∀ y, Tups H2 (upd H2 D (.lst (out ++ [y]))) := fun y => tups_upd eD2
      refine ⟨_, rfl, .inl ⟨rfl, _, SqL.of eD2⟩, ?_⟩
      cases o with
      | lt =>
        obtain ⟨p, hp, em⟩ := st
        have hi' := (List.getElem?_eq_some_iff.mp hp).1
        obtain ⟨v, hv, dv⟩ := dps_at da2 hp
        refine ⟨_, rfl, _, _, rfl, rfl, true, rfl, iteT ?_⟩
        refine ⟨_, rfl, _, rfl, a, xs, i, v, rfl, rfl, ha2, atI_nat hv, D, out, v, rfl, rfl, eD2, by rw [sizeLine_eq]; omega, ?_⟩
        refine ⟨_, rfl, _, rfl, _, _, rfl, rfl, .inr ⟨_, rfl, _, _, rfl, rfl, ?_⟩⟩
        refine ⟨_, rfl, _, rfl, _, _, rfl, rfl, .inr ⟨_, rfl, _, _, rfl, rfl, _, _, rfl, ?_⟩⟩
        refine ⟨_, ?_, i + 1, j, gs ++ [p], out ++ [v], _, rfl, rfl, hi', hj, same_put sm2 hD, upd_same, dps_app (dps_tups (T5 v) _ dD2) (dps_one (dp_tups (T5 v) _ dv)), ?_⟩
        · omega
        · rw [List.append_assoc, List.singleton_append, ← em, inv]
      | eq =>
        obtain ⟨p, hp, hj', em⟩ := st
        have hi' := (List.getElem?_eq_some_iff.mp hp).1
        obtain ⟨v, hv, dv⟩ := dps_at da2 hp
        refine ⟨_, rfl, _, _, rfl, rfl, true, rfl, iteT ?_⟩
        refine ⟨_, rfl, _, rfl, a, xs, i, v, rfl, rfl, ha2, atI_nat hv, D, out, v, rfl, rfl, eD2, by rw [sizeLine_eq]; omega, ?_⟩
        refine ⟨_, rfl, _, rfl, _, _, rfl, rfl, .inr ⟨_, rfl, _, _, rfl, rfl, ?_⟩⟩
        refine ⟨_, rfl, _, rfl, _, _, rfl, rfl, .inr ⟨_, rfl, _, _, rfl, rfl, _, _, rfl, ?_⟩⟩
        refine ⟨_, ?_, i + 1, j + 1, gs ++ [p], out ++ [v], _, rfl, rfl, hi', hj', same_put sm2 hD, upd_same, dps_app (dps_tups (T5 v) _ dD2) (dps_one (dp_tups (T5 v) _ dv)), ?_⟩
        · omega
        · rw [List.append_assoc, List.singleton_append, ← em, inv]
      | gt =>
        obtain ⟨q, hq, em⟩ := st
        have hj' := (List.getElem?_eq_some_iff.mp hq).1
        obtain ⟨v, hv, dv⟩ := dps_at db2 hq
        refine ⟨_, rfl, _, _, rfl, rfl, false, rfl, iteF ?_⟩
        refine ⟨_, rfl, _, rfl, b, ys, j, v, rfl, rfl, hb2, atI_nat hv, D, out, v, rfl, rfl, eD2, by rw [sizeLine_eq]; omega, ?_⟩
        refine ⟨_, rfl, _, rfl, _, _, rfl, rfl, .inr ⟨_, rfl, _, _, rfl, rfl, ?_⟩⟩
        refine ⟨_, rfl, _, rfl, _, _, rfl, rfl, .inr ⟨_, rfl, _, _, rfl, rfl, _, _, rfl, ?_⟩⟩
        refine ⟨_, ?_, i, j + 1, gs ++ [q], out ++ [v], _, rfl, rfl, hi, hj', same_put sm2 hD, upd_same, dps_app (dps_tups (T5 v) _ dD2) (dps_one (dp_tups (T5 v) _ dv)), ?_⟩
        · omega
        · rw [List.append_assoc, List.singleton_append, ← em, inv]
    · refine ⟨_, rfl, _, rfl, a, xs, rfl, .inl ha', rfl, _, rfl, ?_⟩
      refine ite2 (fun c1 => ?_) (fun c1 => ?_)
      · have e1 : i = ps.length := by
          have := V.int.inj (of_decide_eq_true c1)
          omega
        have lt : j < qs.length := by omega
        exact kq .gt H' ⟨Same.refl _, step_right e1 (List.getElem?_eq_getElem lt)⟩
      · have n1 : i < ps.length := by
          have : i ≠ ps.length := fun z => c1 (decide_eq_true (by rw [la, z]))
          omega
        refine ⟨_, rfl, _, rfl, b, ys, rfl, .inl hb', rfl, _, rfl, ?_⟩
        refine ite2 (fun c2 => ?_) (fun c2 => ?_)
        · have e2 : j = qs.length := by
            have := V.int.inj (of_decide_eq_true c2)
            omega
          exact ⟨1, rfl, kq .lt H' ⟨Same.refl _, step_left e2 (List.getElem?_eq_getElem n1)⟩⟩
        · have n2 : j < qs.length := by
            have : j ≠ qs.length := fun z => c2 (decide_eq_true (by rw [lb, z]))
            omega
          have da' := dps_tups (Tups.same sm) _ da
          have db' := dps_tups (Tups.same sm) _ db
          obtain ⟨v, hv, dv⟩ := dps_at da' (List.getElem?_eq_getElem n1)
          obtain ⟨u, hw, dw⟩ := dps_at db' (List.getElem?_eq_getElem n2)
          have g1 := ea _ (List.getElem_mem n1)
          have g2 := eb _ (List.getElem_mem n2)
          refine ⟨_, rfl, _, rfl, a, xs, i, v, rfl, rfl, ha', atI_nat hv, _, rfl, _, rfl, b, ys, j, u, rfl, rfl, hb', atI_nat hw, ?_⟩
          exact ⟨v, u, _, _, rfl, dv, dw, g1.1, g2.1, g1.2.1, g2.2.1, g1.2.2, g2.2.2, fun H2 s2 => kq _ H2 ⟨s2, step_both (List.getElem?_eq_getElem n1) (List.getElem?_eq_getElem n2)⟩⟩
  · refine iteF ⟨_, rfl, k D H' out sm hD eD ?_⟩
    have e1 : ps.drop i = [] := List.drop_eq_nil_of_le (by omega)
    have e2 : qs.drop j = [] := List.drop_eq_nil_of_le (by omega)
    rw [e1, e2, nil_mrg, List.append_nil] at inv
    rw [← inv]
    exact dD
  · refine ⟨_, rfl, _, rfl, a, xs, rfl, .inl ha', _, _, rfl, rfl, _, rfl, ?_⟩
    refine ite2 (fun c => ?_) (fun c => ?_)
    · have := of_decide_eq_true c
      exact k1 (.inl (by omega))
    · have c' := of_decide_eq_false (Bool.eq_false_iff.mpr c)
      refine ⟨_, rfl, _, rfl, b, ys, rfl, .inl hb', _, _, rfl, rfl, _, rfl, ?_⟩
      by_cases hlt : j < qs.length
      · rw [decide_eq_true (show ((j : Nat) : Int) < (ys.length : Nat) by omega)]
        exact k1 (.inr hlt)
      · rw [decide_eq_false (show ¬ ((j : Nat) : Int) < (ys.length : Nat) by omega)]
        exact k0 (by omega)
end
end K1

namespace K1
open PySem PySem.Spec PyProof.Rows L2
/-! ### rows of lists -/
theorem lc_rangeC {lo c : Int} {n : Nat} {g : TG} {tt : TT} {te : TE} {vs : List Nat} {σ : L2.St} {H1 : Hp} {D : Addr} {Qd : Hp → Prop} (Pv : Nat → Hp → Prop) (h0 : Pv 0 (upd H1 D (.lst [])))
    (hs : ∀ i H, i < n → Pv i H → g (.int (lo + (i : Nat) * c)) (wipe σ vs) H fun σ2 H2 => wipe σ2 vs = wipe σ vs ∧ tt σ2 H2 fun b H3 =>
      if b = true then te σ2 H3 fun y H4 => ∃ acc, H4 D = some (.lst acc) ∧ acc.length < sizeLine ∧ Pv (i + 1) (upd H4 D (.lst (acc ++ [y]))) else Pv (i + 1) H3) (hd : ∀ H, Pv n H → Qd H) :
    ∃ W : Nat → Nat → Hp → Prop, (∃ m, W 0 m (upd H1 D (.lst []))) ∧ ∀ i m H, W i m H →
      ((Itc lo c n).stop i H ∧ Qd H) ∨ ((Itc lo c n).go i H ∧ ∃ Nx : Hp → Prop, (∀ H', Nx H' → ∃ m', m' < m ∧ W (i + 1) m' H') ∧ ∀ y H', (Itc lo c n).yld i H y H' → g y (wipe σ vs) H' fun σ2 H2 => wipe σ2 vs = wipe σ vs ∧ tt σ2 H2 fun b H3 =>
        if b = true then te σ2 H3 fun y H4 => ∃ acc, H4 D = some (.lst acc) ∧ acc.length < sizeLine ∧ Nx (upd H4 D (.lst (acc ++ [y]))) else Nx H3) := by
  refine ⟨fun i m H => m = n - i ∧ i ≤ n ∧ Pv i H, ⟨_, rfl, Nat.zero_le _, h0⟩, ?_⟩
  rintro i m H ⟨rfl, hi, p⟩
  by_cases hlt : i < n
  · refine .inr ⟨hlt, Pv (i + 1), fun H' p' => ⟨n - (i + 1), by omega, rfl, hlt, p'⟩, fun y H' z => ?_⟩
    obtain ⟨e, z⟩ := z
    subst e z
    exact hs i _ hlt p
  · have e : i = n := by omega
    subst e
    exact .inl ⟨Nat.le_refl _, hd H p⟩
theorem twos_range : ∀ n : Fin 61, RgC 0 ((n.1 : Nat) : Int) 2 ((n.1 + 1) / 2) := by
  unfold RgC
  decide +kernel
def rLen (K : PySem.W.Frag) : List V → Hp → VK → Prop := fun xs H Q => ∃ p ys, xs = [V.ref p] ∧ (SqL K H p ys ∨ SqT K H p ys) ∧ Q (V.int ↑ys.length) H
theorem call_len_q {X : Cx} : CallR X (.builtin "len") (rLen X.K) := call_len_seq
def RowsAt (K : PySem.W.Frag) (H : Hp) (vs : List V) (R : List (List PV)) : Prop := vs.length = R.length ∧ ∀ (k : Nat) (v : V) (ps : List PV), vs[k]? = some v → R[k]? = some ps → ∃ r xs, v = .ref r ∧ H r = some (.lst xs) ∧ DpAll K H xs (toDs ps)
theorem RowsAt.same {K : PySem.W.Frag} {H H' : Hp} {vs : List V} {R : List (List PV)} (h : RowsAt K H vs R) (s : Same H H') : RowsAt K H' vs R := ⟨h.1, fun k v ps hv hp => by
  obtain ⟨r, xs, e, h1, h2⟩ := h.2 k v ps hv hp
  exact ⟨r, xs, e, s _ _ h1, dps_tups (Tups.same s) _ h2⟩⟩
theorem RowsAt.put {K : PySem.W.Frag} {H : Hp} {vs : List V} {R : List (List PV)} {D : Addr} {ys zs : List V} (h : RowsAt K H vs R) (n : ∀ v ∈ vs, v ≠ .ref D) (e : H D = some (.lst ys)) : RowsAt K (upd H D (.lst zs)) vs R := ⟨h.1, fun k v ps hv hp => by
  obtain ⟨r, xs, rfl, h1, h2⟩ := h.2 k v ps hv hp
  have ne : r ≠ D := fun z => n (.ref r) (List.mem_of_getElem? hv) (by rw [z])
  exact ⟨r, xs, rfl, by rw [upd_ne ne]; exact h1, dps_tups (tups_upd e) _ h2⟩⟩
theorem RowsAt.snoc {K : PySem.W.Frag} {H : Hp} {vs : List V} {R : List (List PV)} {r : Addr} {xs : List V} {ps : List PV} (h : RowsAt K H vs R) (h1 : H r = some (.lst xs)) (h2 : DpAll K H xs (toDs ps)) : RowsAt K H (vs ++ [.ref r]) (R ++ [ps]) := by
  refine ⟨by rw [List.length_append, List.length_append, h.1]; rfl, fun k v qs hv hp => ?_⟩
  by_cases hk : k < vs.length
  · rw [List.getElem?_append_left hk] at hv
    rw [List.getElem?_append_left (by rw [← h.1]; exact hk)] at hp
    exact h.2 k v qs hv hp
  · rw [List.getElem?_append_right (by omega)] at hv
    rw [List.getElem?_append_right (by rw [← h.1]; omega)] at hp
    obtain ⟨l1, _⟩ := List.getElem?_eq_some_iff.mp hv
    have e : k - vs.length = 0 := by
      simp at l1
      omega
    rw [e] at hv
    rw [show k - R.length = 0 by rw [← h.1]; exact e] at hp
    simp at hv hp
    subst hv hp
    exact ⟨r, xs, rfl, h1, h2⟩
theorem RowsAt.none {K : PySem.W.Frag} {H : Hp} : RowsAt K H [] [] := ⟨rfl, fun k v ps hv _ => by simp at hv⟩
/-- the rows stand for the values -/
structure RowsOf (ps : List PV) (R : List (List PV)) : Prop where
  asc : ∀ l ∈ R, Asc l
  mem : ∀ z, (∃ l, l ∈ R ∧ z ∈ l) ↔ z ∈ ps
  tot : total R ≤ ps.length
  len : R.length ≤ ps.length
theorem RowsOf.start (ps : List PV) : RowsOf ps (ps.map fun p => [p]) where
  asc := fun l hl => by
    obtain ⟨p, _, rfl⟩ := List.mem_map.mp hl
    exact List.pairwise_singleton _ _
  mem := fun z => by
    constructor
    · rintro ⟨l, hl, hz⟩
      obtain ⟨p, hp, rfl⟩ := List.mem_map.mp hl
      rw [List.mem_singleton.mp hz]
      exact hp
    · intro hz
      exact ⟨[z], List.mem_map.mpr ⟨z, hz, rfl⟩, List.mem_singleton.mpr rfl⟩
  tot := by
    unfold total
    rw [List.map_map]
    induction ps with
    | nil => simp
    | cons p ps ih =>
      simp at ih ⊢
      omega
  len := by simp
theorem RowsOf.turn {ps : List PV} {R : List (List PV)} (h : RowsOf ps R) : RowsOf ps (twos R) where
  asc := twos_asc h.asc
  mem := fun z => twos_mem.trans (h.mem z)
  tot := Nat.le_trans (twos_total R) h.tot
  len := by
    rw [twos_len]
    have := h.len
    omega
theorem RowsOf.one {ps l : List PV} (h : RowsOf ps [l]) : l = canon ps := canon_of (h.asc l (List.mem_singleton.mpr rfl)) fun z => ⟨fun hz => (h.mem z).mp ⟨l, List.mem_singleton.mpr rfl, hz⟩, fun hz => by
  obtain ⟨m, hm, hzm⟩ := (h.mem z).mpr hz
  rw [← List.mem_singleton.mp hm]
  exact hzm⟩
theorem RowsOf.none {ps : List PV} (h : RowsOf ps []) : canon ps = [] := by
  cases ps with
  | nil => rfl
  | cons p ps =>
    obtain ⟨l, hl, _⟩ := (h.mem p).mpr (by simp)
    cases hl
theorem shaped_row {ps : List PV} (h : goods ps) (hn : nests ps ≤ 60) : SeqAt.shaped (.list [.list (toDs ps)]) = true := by
  unfold SeqAt.shaped
  have d : (PyData.list [.list (toDs ps)]).depth = nests ps + 1 + 1 := by simp only [PyData.depth, PyData.depthAll]; rw [dep_toDs]; omega
  have c : (PyData.list [.list (toDs ps)]).canLay0 = true := by simp only [PyData.canLay0, PyData.canLayAll0]; rw [can_toDs ps h]; rfl
  rw [c, d, decide_eq_true (by omega)]
  rfl
theorem eqv_row (ps : List PV) : PyData.eqv (.list [.list (toDs ps)]) (.list []) = false := by simp only [PyData.eqv, PyData.eqvAll]
section
variable {P : Program} {w : World} {K : PySem.W.Frag} {mg : Str → Option Value} {base : Heap} {f : Addr} {fd : FuncData}
def spOrderedIn (K : PySem.W.Frag) : Sp := fun vs H Q _ => ∃ (a : Addr) (xs : List V) (ps : List PV), vs = [.ref a] ∧ SqT K H a xs ∧ DpAll K H xs (toDs ps) ∧ (∀ p ∈ ps, easy p) ∧ ps.length ≤ 60 ∧
  ∀ (D : Addr) (H' : Hp) (out : List V), Same H H' → H' D = some (.lst out) → DpAll K H' out (toDs (canon ps)) → Q (.ref D) H'
theorem scOrderedIn : FnScope ["values", "rows", "value", "at"] ["values"] (defScope sOrderedIn) := ⟨rfl, rfl, rfl, by decide +kernel, rfl, by decide +kernel, by decide +kernel⟩
theorem ok_ordered_in (F : Fun K "ordered_in" "ordered_in" sOrderedIn f fd) (T : Txt mg) (C : Cal P w K mg base 4 "merged" (spMerged K)) : FnOk P w K mg base CX0 5 f fd ["values"] (spOrderedIn K) := by
  obtain ⟨f1, fd1, ps1, G1, m1, k1, b1⟩ := C
  refine F.ok scOrderedIn (fun vs H Q E h => ?_) (fun cdv A outer s H vs Q E hr h => ?_)
  · obtain ⟨a, xs, ps, rfl, _⟩ := h
    rfl
  obtain ⟨a, xs, ps, rfl, ha, dx, ez, hz, k⟩ := h
  have hu := hr.units
  refine ⟨_, pss_cons (ps_set (i := 1) scOrderedIn.nd rfl (.inr rfl) (pe_lc (own := [("value", 2)]) (g := gName 2) (tt := tYes) (by rfl) scOrderedIn.nd (pi_tup (pv 0)) (blkOk_by (own := [("value", 2)]) (N := ["values", "rows", "value", "at"]) (sc := defScope sOrderedIn) (by decide +kernel))
            (fun _ _ _ _ _ => pg_name (i := 2) scOrderedIn.nd rfl (Or.inl rfl)) (fun _ _ _ _ _ => pts_nil) (fun _ _ _ _ _ => pe_lst (pa_cons (pv 2) pa_nil))))
    (pss_cons (ps_while PassesOwn.never (pt_cmpR op_gt (pe_callB call_len_seq (by rfl) T.len PySem.boot_len (pa_cons (pv 1) pa_nil)) pe_int (nomark _))
      (pss_one (ps_set (i := 1) scOrderedIn.nd rfl (.inr rfl) (pe_lc (own := [("at", 3)]) (g := gName 3) (tt := tYes) (by rfl) scOrderedIn.nd (pi_range3 (by rfl) T.range (pa_cons pe_int (pa_cons (pe_callB call_len_seq (by rfl) T.len PySem.boot_len (pa_cons (pv 1) pa_nil)) (pa_cons pe_int pa_nil)))) (blkOk_by (own := [("at", 3)]) (N := ["values", "rows", "value", "at"]) (sc := defScope sOrderedIn) (by decide +kernel))
            (fun _ _ _ _ _ => pg_name (i := 3) scOrderedIn.nd rfl (Or.inl rfl)) (fun _ _ _ _ _ => pts_nil) (fun _ _ _ _ _ => pe_call G1 hr (by rfl) m1 k1 b1 .nil pass0 (pa_cons (pe_ix (r := rIxL K) ix_list (pv 1) (pv 3) (fun _ _ => rfl))
              (pa_cons (pe_ifExp (pt_cmpR op_lt (pe_op op_add (pv 3) pe_int) (pe_callB (r := rLen K) call_len_q (by rfl) T.len PySem.boot_len (pa_cons (pv 1) pa_nil)) (nomark _)) (pe_ix (r := rIxL K) ix_list (pv 1) (pe_op op_add (pv 3) pe_int) (fun _ _ => rfl)) (pe_lst pa_nil)) pa_nil)))))))
    (pss_one (ps_ret (pe_ifExp (pt_cmpR (op_neD hu) (pv 1) (pe_lst pa_nil) (nomark _)) (pe_ix (r := rIxL K) ix_list (pv 1) pe_int (fun _ _ => rfl)) (pe_lst pa_nil))))), ?_⟩
  have lx := dps_len dx
  refine ⟨_, rfl, a, rfl, ⟨_, ha⟩, fun D hD => ?_⟩
  refine lc_tup (K := K) (a := a) (xs := xs) (fun i H3 => ∃ acc, Same H H3 ∧ H3 D = some (.lst acc) ∧ RowsAt K H3 acc ((ps.take i).map fun p => [p]) ∧ ∀ v ∈ acc, v ≠ .ref D)
    ⟨[], same_upd hD, upd_same, by rw [List.take_zero, List.map_nil]; exact RowsAt.none, fun v hv => by cases hv⟩ (fun i H3 _ hP => ?_) (fun i x H3 hx hP => ?_) (fun H3 hP => ?_)
  · obtain ⟨acc, s3, _, _⟩ := hP
    exact (Tups.same s3).seq ha
  · obtain ⟨acc, s3, e3, d3, n3⟩ := hP
    obtain ⟨x', hx', dx'⟩ := dps_get dx hx
    have li : i < ps.length := (List.getElem?_eq_some_iff.mp hx').1
    have lacc := d3.1
    rw [List.length_map, List.length_take] at lacc
    refine ⟨rfl, yes_lc ?_⟩
    refine ⟨_, rfl, (by show 1 ≤ sizeLine; decide), fun t4 ht4 => ?_⟩
    have nD : D ≠ t4 := ne_of_none e3 ht4
    have e4 : (upd H3 t4 (.lst [x])) D = some (.lst acc) := by rw [upd_ne nD]; exact e3
    refine ⟨acc, e4, by rw [sizeLine_eq]; omega, acc ++ [.ref t4], ?_, upd_same, ?_, ?_⟩
    · exact same_put (s3.trans (same_upd ht4)) hD
    · have e5 : (ps.take (i + 1)).map (fun p => [p]) = (ps.take i).map (fun p => [p]) ++ [[x']] := by
        rw [List.take_add_one, hx', List.map_append]
        rfl
      rw [e5]
      refine ((d3.same (same_upd ht4)).put n3 e4).snoc (xs := [x]) ?_ ?_
      · rw [upd_ne nD.symm, upd_same]
      · exact dps_one (dp_tups ((Tups.same s3).trans ((tups_new ht4).trans (tups_upd e4))) _ dx')
    · intro v hv
      rcases List.mem_append.mp hv with hv | hv
      · exact n3 v hv
      · rw [List.mem_singleton.mp hv]
        exact fun z => nD (V.ref.inj z).symm
  obtain ⟨acc, s3, e3, d3, _⟩ := hP
  rw [List.take_of_length_le (by omega)] at d3
  refine ⟨fun m σ H' => ∃ (L : Addr) (rs : List V) (R : List (List PV)) (y2 y3 : Option V), σ = [some (.ref a), some (.ref L), y2, y3] ∧ m = R.length ∧ Same H H' ∧ H' L = some (.lst rs) ∧ RowsAt K H' rs R ∧ RowsOf ps R,
    ⟨_, D, acc, _, _, _, rfl, rfl, s3, e3, d3, RowsOf.start ps⟩, fun m σ H' hW => ?_⟩
  obtain ⟨L, rs, R, y2, y3, rfl, rfl, sm, eL, dR, oR⟩ := hW
  have lR := dR.1
  have l60 := oR.len
  have easyR : ∀ l ∈ R, ∀ p ∈ l, easy p := fun l hl p hp => ez p ((oR.mem p).mp ⟨l, hl, hp⟩)
  refine ⟨_, rfl, L, rs, rfl, .inl (SqL.of eL), _, _, rfl, rfl, _, rfl, ?_⟩
  refine ite2 (fun c => ?_) (fun c => ?_)
  · have hlt := of_decide_eq_true c
    have hlt : 1 < rs.length := by omega
    refine ⟨fun σ' H2 => ∃ m', m' < R.length ∧ ∃ (L : Addr) (rs : List V) (R : List (List PV)) (y2 y3 : Option V), σ' = [some (.ref a), some (.ref L), y2, y3] ∧ m' = R.length ∧ Same H H2 ∧ H2 L = some (.lst rs) ∧ RowsAt K H2 rs R ∧ RowsOf ps R, fun _ _ h => h, ?_⟩
    refine ⟨_, rfl, L, rs, rfl, .inl (SqL.of eL), _, _, _, (rs.length + 1) / 2, rfl, twos_range ⟨rs.length, by omega⟩, fun D2 hD2 => ?_⟩
    have lT := twos_len R
    refine lc_rangeC (fun i H3 => ∃ acc, Same H' H3 ∧ H3 D2 = some (.lst acc) ∧ RowsAt K H3 acc ((twos R).take i) ∧ ∀ v ∈ acc, v ≠ .ref D2)
      ⟨[], same_upd hD2, upd_same, by rw [List.take_zero]; exact RowsAt.none, fun v hv => by cases hv⟩ (fun i H3 hi hP => ?_) (fun H3 hP => ?_)
    · obtain ⟨acc, s4, e4, d4, n4⟩ := hP
      have lacc := d4.1
      rw [List.length_take] at lacc
      have l1 : 2 * i < rs.length := by omega
      have l1R : 2 * i < R.length := by omega
      have eL3 := s4 _ _ eL
      have dR3 := dR.same s4
      obtain ⟨r1, x1, er1, h1, dx1⟩ := dR3.2 (2 * i) _ _ (List.getElem?_eq_getElem l1) (List.getElem?_eq_getElem l1R)
      have ei : (0 : Int) + ((i : Nat) : Int) * 2 = ((2 * i : Nat) : Int) := by omega
      have ei2 : (0 : Int) + ((i : Nat) : Int) * 2 + 1 = ((2 * i + 1 : Nat) : Int) := by omega
      have at1 : atI rs (0 + ((i : Nat) : Int) * 2) = some (.ref r1) := by
        rw [ei, atI_nat (List.getElem?_eq_getElem l1), er1]
      have ta := twos_at R i _ (List.getElem?_eq_getElem l1R)
      have tk : (twos R).take (i + 1) = (twos R).take i ++ [mrg R[2 * i] (R.getD (2 * i + 1) [])] := by
        rw [List.take_add_one, ta]
        rfl
      have eas1 := easyR _ (List.getElem_mem l1R)
      have tl1 := Nat.le_trans (total_mem (List.getElem_mem l1R)) oR.tot
      have n1 : 1 ≤ ps.length := by omega
      refine ⟨rfl, yes_lc ?_⟩
      -- what merged gives is put at the end
      have fin : ∀ (H4 : Hp) (M : Addr) (H5 : Hp) (out : List V), Same H3 H4 → Same H4 H5 → H4 M = none → H5 M = some (.lst out) → DpAll K H5 out (toDs (mrg R[2 * i] (R.getD (2 * i + 1) []))) →
          ∃ acc, H5 D2 = some (.lst acc) ∧ acc.length < sizeLine ∧ ∃ acc', Same H' (upd H5 D2 (.lst (acc ++ [.ref M]))) ∧ (upd H5 D2 (.lst (acc ++ [.ref M]))) D2 = some (.lst acc') ∧ RowsAt K (upd H5 D2 (.lst (acc ++ [.ref M]))) acc' ((twos R).take (i + 1)) ∧ ∀ v ∈ acc', v ≠ .ref D2 := by
        intro H4 M H5 out s45 s5 hM eM dM
        have e45 := s45 _ _ e4
        have nM : D2 ≠ M := ne_of_none e45 hM
        have e55 := s5 _ _ e45
        refine ⟨acc, e55, by rw [sizeLine_eq]; omega, acc ++ [.ref M], same_put (s4.trans (s45.trans s5)) hD2, upd_same, ?_, fun v hv => ?_⟩
        · rw [tk]
          refine ((d4.same (s45.trans s5)).put n4 e55).snoc (xs := out) ?_ ?_
          · rw [upd_ne nM.symm]
            exact eM
          · exact dps_tups (tups_upd e55) _ dM
        · rcases List.mem_append.mp hv with hv | hv
          · exact n4 v hv
          · rw [List.mem_singleton.mp hv]
            exact fun z => nM (V.ref.inj z).symm
      refine ⟨_, rfl, _, rfl, L, rs, _, _, rfl, rfl, SqL.of eL3, at1, ?_⟩
      refine ⟨_, rfl, _, _, rfl, rfl, _, rfl, L, rs, rfl, .inl (SqL.of eL3), _, _, rfl, rfl, _, rfl, ?_⟩
      refine ite2 (fun c2 => ?_) (fun c2 => ?_)
      · have hl2 := of_decide_eq_true c2
        have l2 : 2 * i + 1 < rs.length := by omega
        have l2R : 2 * i + 1 < R.length := by omega
        obtain ⟨r2, x2, er2, h2, dx2⟩ := dR3.2 (2 * i + 1) _ _ (List.getElem?_eq_getElem l2) (List.getElem?_eq_getElem l2R)
        have at2 : atI rs (0 + ((i : Nat) : Int) * 2 + 1) = some (.ref r2) := by
          rw [ei2, atI_nat (List.getElem?_eq_getElem l2), er2]
        have eg : R.getD (2 * i + 1) [] = R[2 * i + 1] := by rw [List.getD_eq_getElem?_getD, List.getElem?_eq_getElem l2R]; rfl
        have tl2 := Nat.le_trans (total_mem (List.getElem_mem l2R)) oR.tot
        refine ⟨_, rfl, _, rfl, _, _, rfl, rfl, L, rs, _, _, rfl, rfl, SqL.of eL3, at2, ?_⟩
        refine ⟨r1, r2, x1, x2, _, _, rfl, SqL.of h1, SqL.of h2, dx1, dx2, eas1, easyR _ (List.getElem_mem l2R), by omega, fun M H5 out s5 hM eM dM => ?_⟩
        exact fin H3 M H5 out (Same.refl _) s5 hM eM (by rw [eg]; exact dM)
      · have hl2 := of_decide_eq_false (Bool.eq_false_iff.mpr c2)
        have eg : R.getD (2 * i + 1) [] = [] := by rw [List.getD_eq_getElem?_getD, List.getElem?_eq_none (by omega)]; rfl
        refine ⟨Nat.zero_le _, fun e he => ?_⟩
        have sE := same_upd (o := .lst []) he
        refine ⟨r1, e, x1, [], R[2 * i], [], rfl, Same.seq sE (SqL.of h1), SqL.of upd_same, dps_tups (tups_new he) _ dx1, by simp only [toDs]; exact .nil, eas1, fun q hq => absurd hq List.not_mem_nil, ?_, fun M H5 out s5 hM eM dM => ?_⟩
        · simp only [List.length_nil]
          omega
        · exact fin _ M H5 out sE s5 hM eM (by rw [eg]; exact dM)
    · obtain ⟨acc, s4, e4, d4, _⟩ := hP
      rw [List.take_of_length_le (by omega)] at d4
      exact ⟨_, by omega, D2, acc, twos R, _, _, rfl, rfl, sm.trans s4, e4, d4, oR.turn⟩
  · have hle := of_decide_eq_false (Bool.eq_false_iff.mpr c)
    refine ⟨_, rfl, Nat.zero_le _, fun l hl => ?_⟩
    have sL := same_upd (o := .lst []) hl
    cases R with
    | nil =>
      have e0 : rs = [] := List.eq_nil_of_length_eq_zero (by simpa using lR)
      subst e0
      refine ⟨.list [], .list [], .lst (Same.seq sL (SqL.of eL)) .nil, .lst (SqL.of upd_same) .nil, shaped_nil, shaped_nil, _, rfl, ?_⟩
      refine iteF ⟨Nat.zero_le _, fun l2 hl2 => ?_⟩
      refine k l2 _ [] ((sm.trans sL).trans (same_upd hl2)) upd_same ?_
      rw [oR.none]
      simp only [toDs]
      exact .nil
    | cons q R2 =>
      have e2 : R2 = [] := List.eq_nil_of_length_eq_zero (by simp at lR; omega)
      subst e2
      obtain ⟨v, hv⟩ : ∃ v, rs = [v] := by
        match rs, lR with
        | [v], _ => exact ⟨v, rfl⟩
      subst hv
      have dR2 := dR.same sL
      obtain ⟨r1, x1, rfl, h1, dx1⟩ := dR2.2 0 _ _ rfl rfl
      have eq := oR.one
      have gq : goods q := goods_mem.mpr fun p hp => (easyR q (by simp) p hp).1
      have nq : nests q ≤ 12 := nests_le fun p hp => (easyR q (by simp) p hp).2.1
      refine ⟨.list [.list (toDs q)], .list [], .lst (Same.seq sL (SqL.of eL)) (.cons (.lst (SqL.of h1) dx1) .nil), .lst (SqL.of upd_same) .nil, shaped_row gq (by omega), shaped_nil, true, ?_, iteT ?_⟩
      · rw [eqv_row]
        rfl
      · refine ⟨_, rfl, L, [.ref r1], 0, .ref r1, rfl, rfl, Same.seq sL (SqL.of eL), rfl, ?_⟩
        refine k r1 _ x1 (sm.trans sL) h1 ?_
        rw [← eq]
        exact dx1
end
end K1

namespace K1
open PySem PySem.Spec PyProof.Rows L2
section
variable {P : Program} {w : World} {K : PySem.W.Frag} {mg : Str → Option Value} {base : Heap} {f : Addr} {fd : FuncData}
def spRequire (K : PySem.W.Frag) : Sp := fun vs H Q _ => ∃ (v : V) (p : PV), vs = [v] ∧ Dp K H v (toD p) ∧ easy p ∧ ∀ H', Same H H' → Q .non H'
theorem scRequire : FnScope ["value"] ["value"] (defScope sRequire) := ⟨rfl, rfl, rfl, by decide +kernel, rfl, by decide +kernel, by decide +kernel⟩
theorem ok_require (F : Fun K "require_plain" "require_plain" sRequire f fd) (C : Cal P w K mg base 4 "is_plain" (spPlain K)) : FnOk P w K mg base CX0 5 f fd ["value"] (spRequire K) := by
  obtain ⟨f1, fd1, ps1, G1, m1, k1, b1⟩ := C
  refine F.ok scRequire (fun vs H Q E h => ?_) (fun cdv A outer s H vs Q E hr h => ?_)
  · obtain ⟨v, p, rfl, _⟩ := h
    rfl
  obtain ⟨v, p, rfl, hp, ep, k⟩ := h
  refine ⟨_, pss_one (ps_if (pt_not (pt_val (pe_call G1 hr (by rfl) m1 k1 b1 .nil pass0 (pa_cons (pv 0) pa_nil)))) (pss_one ps_never) pss_nil), ?_⟩
  exact ⟨_, rfl, v, p, rfl, hp, ep.1, ep.2.1, Nat.le_trans ep.2.2 (by decide), fun H2 s2 => ⟨true, rfl, iteF (k H2 s2)⟩⟩

def spLess (K : PySem.W.Frag) : Sp := fun vs H Q _ => ∃ (v u : V) (p q : PV), vs = [v, u] ∧ Dp K H v (toD p) ∧ Dp K H u (toD q) ∧ easy p ∧ easy q ∧ ∀ H', Same H H' → Q (.bl (lt p q)) H'
theorem scLess : FnScope ["one", "other"] ["one", "other"] (defScope sLess) := ⟨rfl, rfl, rfl, by decide +kernel, rfl, by decide +kernel, by decide +kernel⟩
theorem ok_less (F : Fun K "is_less" "is_less" sLess f fd) (C1 : Cal P w K mg base 5 "require_plain" (spRequire K)) (C2 : Cal P w K mg base 3 "compared" (spCompared K)) : FnOk P w K mg base CX0 6 f fd ["one", "other"] (spLess K) := by
  obtain ⟨f1, fd1, ps1, G1, m1, k1, b1⟩ := C1
  obtain ⟨f2, fd2, ps2, G2, m2, k2, b2⟩ := C2
  refine F.ok scLess (fun vs H Q E h => ?_) (fun cdv A outer s H vs Q E hr h => ?_)
  · obtain ⟨v, u, p, q, rfl, _⟩ := h
    rfl
  obtain ⟨v, u, p, q, rfl, hp, hq, ep, eq, k⟩ := h
  refine ⟨_, pss_cons (ps_expr (pe_call G1 hr (by rfl) m1 k1 b1 .nil pass0 (pa_cons (pv 0) pa_nil))) (pss_cons (ps_expr (pe_call G1 hr (by rfl) m1 k1 b1 .nil pass0 (pa_cons (pv 1) pa_nil)))
    (pss_one (ps_ret (pe_cmpR op_lt (pe_call G2 (hr.mono (by decide)) (by rfl) m2 k2 b2 .nil pass0 (pa_cons (pv 0) (pa_cons (pv 1) pa_nil))) pe_int (nomark _))))), ?_⟩
  refine ⟨_, rfl, v, p, rfl, hp, ep, fun H2 s2 => ?_⟩
  refine ⟨_, rfl, u, q, rfl, dp_tups (Tups.same s2) _ hq, eq, fun H3 s3 => ?_⟩
  have T3 := Tups.same (s2.trans s3)
  refine ⟨_, rfl, _, rfl, v, u, p, q, rfl, dp_tups T3 _ hp, dp_tups T3 _ hq, ep.1, eq.1, ep.2.1, eq.2.1, ep.2.2, eq.2.2, fun H4 s4 => ?_⟩
  refine ⟨_, _, rfl, rfl, ?_⟩
  show Q (.bl (decide (num (cmp p q) < 0))) H4
  rw [num_neg]
  exact k H4 ((s2.trans s3).trans s4)

def spOrdered (K : PySem.W.Frag) : Sp := fun vs H Q _ => ∃ (v : V) (ps : List PV), vs = [v] ∧ Dp K H v (toD (.tup ps)) ∧ easy (.tup ps) ∧ ps.length ≤ 60 ∧ ∀ (x : V) (H' : Hp), Same H H' → Dp K H' x (toD (.tup (canon ps))) → Q x H'
theorem scOrdered : FnScope ["values"] ["values"] (defScope sOrdered) := ⟨rfl, rfl, rfl, by decide +kernel, rfl, by decide +kernel, by decide +kernel⟩
theorem easy_mem {ps : List PV} (h : easy (.tup ps)) : ∀ p ∈ ps, easy p := fun p hp => by
  obtain ⟨h1, h2, h3⟩ := h
  simp only [nest, sz] at h2 h3
  have := nests_mem hp
  have := szs_mem hp
  exact ⟨goods_mem.mp (by simpa only [good] using h1) p hp, by omega, by omega⟩
theorem ok_ordered (F : Fun K "ordered" "ordered" sOrdered f fd) (T : Txt mg) (C1 : Cal P w K mg base 4 "is_plain" (spPlain K)) (C2 : Cal P w K mg base 5 "ordered_in" (spOrderedIn K)) : FnOk P w K mg base CX0 6 f fd ["values"] (spOrdered K) := by
  obtain ⟨f1, fd1, ps1, G1, m1, k1, b1⟩ := C1
  obtain ⟨f2, fd2, ps2, G2, m2, k2, b2⟩ := C2
  refine F.ok scOrdered (fun vs H Q E h => ?_) (fun cdv A outer s H vs Q E hr h => ?_)
  · obtain ⟨v, ps, rfl, _⟩ := h
    rfl
  obtain ⟨v, ps, rfl, hp, ep, l60, k⟩ := h
  refine ⟨_, pss_cons (ps_if (PW.pt (pw_or (pt_not (pt_val (pe_isP (.inr (.inr (.inl rfl))) (by rfl) T.isi (by rfl) T.ttup (by decide +kernel) (pv 0)))) (pw_or1 (pt_not (pt_val (pe_call G1 (hr.mono (by decide)) (by rfl) m1 k1 b1 .nil pass0 (pa_cons (pv 0) pa_nil))))))) (pss_one ps_never) pss_nil)
    (pss_one (ps_ret (pe_callTy call_tuple_of (by rfl) T.ttup (by decide +kernel) (pa_cons (pe_call G2 hr (by rfl) m2 k2 b2 .nil pass0 (pa_cons (pv 0) pa_nil)) pa_nil)))), ?_⟩
  refine ⟨_, rfl, .tup ps, true, hp, k_tt ps, true, rfl, iteF ?_⟩
  refine ⟨_, rfl, v, .tup ps, rfl, hp, ep.1, ep.2.1, Nat.le_trans ep.2.2 (by decide), fun H2 s2 => ⟨true, rfl, iteF ?_⟩⟩
  obtain ⟨a, xs, rfl, ha, dx⟩ := dp_tup (dp_tups (Tups.same s2) _ hp)
  refine ⟨_, rfl, a, xs, ps, rfl, ha, dx, easy_mem ep, l60, fun D H3 out s3 eD dD => ?_⟩
  refine ⟨D, out, rfl, .inl ⟨SqL.of eD, fun l hl => ?_⟩⟩
  have s4 := same_upd (o := .tup out) hl
  exact k (.ref l) _ ((s2.trans s3).trans s4) (dp_mk (SqT.of upd_same) (dps_tups (Tups.same s4) _ dD))
end
end K1

namespace K1
open PySem PySem.Spec PyProof.Rows L2
theorem pick_i {G : VK → Prop} {Q : VK} {H : Hp} (k : ∀ c : Int, Q (.int c) H) (g : ∀ Q : VK, (∀ c : Int, Q (.int c) H) → G Q) : G Q := g Q k
theorem ixN_ofNat {n j : Nat} (hj : j < n) : ixN n (j : Int) = some j := by
  unfold ixN
  rw [if_pos (by omega), if_pos (by omega)]
  simp
theorem erase_perm1 {α : Type} : ∀ (l : List α) (i : Nat) (y : α), l[i]? = some y → (y :: l.eraseIdx i).Perm l
  | [], i, y, h => by simp at h
  | x :: l, 0, y, h => by
    simp at h
    subst h
    exact List.Perm.refl _
  | x :: l, i + 1, y, h => by
    simp at h
    exact (List.Perm.swap x y _).trans ((erase_perm1 l i y h).cons x)
def Dice (H : Hp) (d : Addr) : Prop := ∃ i j k : Int, H d = some (.lst [.int i, .int j, .int k])
theorem but_put {d : Addr} {H H' : Hp} {a : Addr} {o : HO} (s : But d H H') (h : H a = none) : But d H (upd H' a o) := fun b u n q => by
  rw [upd_ne (ne_of_none q h)]
  exact s b u n q
theorem but_dice {d : Addr} {H : Hp} {o : HO} : But d H (upd H d o) := fun b u n q => by
  rw [upd_ne n]
  exact q
theorem Dice.same {H H' : Hp} {d : Addr} (h : Dice H d) (s : Same H H') : Dice H' d := by
  obtain ⟨i, j, k, e⟩ := h
  exact ⟨i, j, k, s _ _ e⟩
theorem Dice.ne {H : Hp} {d a : Addr} (h : Dice H d) (e : H a = none) : d ≠ a := by
  obtain ⟨i, j, k, h⟩ := h
  exact ne_of_none h e
theorem Dice.put {H : Hp} {d a : Addr} {o : HO} (h : Dice H d) (n : d ≠ a) : Dice (upd H a o) d := by
  obtain ⟨i, j, k, h⟩ := h
  exact ⟨i, j, k, by rw [upd_ne n]; exact h⟩
theorem But.tups {d : Addr} {H H' : Hp} (b : But d H H') (h : Dice H d) : Tups H H' := by
  obtain ⟨i, j, k, h⟩ := h
  exact Tups.of b h
section
variable {P : Program} {w : World} {K : PySem.W.Frag} {mg : Str → Option Value} {base : Heap} {f : Addr} {fd : FuncData}
/-! ### _law_dice -/
def spDice (K : PySem.W.Frag) : Sp := fun vs H Q _ => ∃ (a : Addr) (ns : List Int) (k : Nat), vs = [.ref a, .int (k : Int)] ∧ SqL K H a (ns.map V.int) ∧ k ≤ 2 ∧ ∀ D, H D = none → ∀ i j : Int, Q (.ref D) (upd H D (.lst [.int i, .int j, .int 0]))
theorem scDice : FnScope ["_law_script", "_law_spot", "_law_cell", "_law_left"] ["_law_script", "_law_spot"] (defScope sDice) := ⟨rfl, rfl, rfl, by decide +kernel, rfl, by decide +kernel, by decide +kernel⟩
theorem ok_dice (F : Fun K "_law_dice" "_law_dice" sDice f fd) (T : Txt mg) : FnOk P w K mg base CX0 1 f fd ["_law_script", "_law_spot"] (spDice K) := by
  refine F.ok scDice (fun vs H Q E h => ?_) (fun cdv A outer s H vs Q E hr h => ?_)
  · obtain ⟨a, ns, k, rfl, _⟩ := h
    rfl
  obtain ⟨a, ns, k, rfl, hS, hk, q⟩ := h
  refine ⟨_, pss_cons (ps_set (i := 2) scDice.nd rfl (.inl rfl) (pe_ifExp (pt_cmpR op_lt (pv 1) (pe_callB call_len_seq (by rfl) T.len PySem.boot_len (pa_cons (pv 0) pa_nil)) (nomark _))
      (pe_callTy call_int1 (by rfl) T.tint (by decide +kernel) (pa_cons (pe_ix ix_list (pv 0) (pv 1) (fun _ _ => rfl)) pa_nil)) (pe_op op_add (pe_op op_mul pe_int (pv 1)) pe_int)))
    (pss_cons (ps_set (i := 3) scDice.nd rfl (.inl rfl) (pe_op op_mod (pe_callB (call_max2 (by rfl)) (by rfl) T.max (by decide +kernel) (pa_cons pe_int (pa_cons (pe_op op_sub (pe_callB call_abs (by rfl) T.abs (by decide +kernel) (pa_cons (pv 2) pa_nil)) (pe_op op_pow pe_int pe_int)) pa_nil)))
      (pe_op op_mulW (pe_op op_pow pe_int pe_int) (pe_op op_pow pe_int pe_int))))
    (pss_one (ps_ret (pe_lst (pa_cons (pv 3) (pa_cons (pe_op op_add (pe_op op_add (pe_op op_add (pe_op op_mul (pe_op op_mod (pe_callB call_abs (by rfl) T.abs (by decide +kernel) (pa_cons (pv 2) pa_nil)) pe_int) pe_int) (pe_op op_mul pe_int (pv 1)))
      (pe_op op_mul pe_int (pe_callTy call_int1 (by rfl) T.tint (by decide +kernel) (pa_cons (pe_cmpR op_lt (pv 2) pe_int (nomark _)) pa_nil)))) pe_int) (pa_cons pe_int pa_nil))))))), ?_⟩
  have m1 : ∀ i j : Int, -(2 ^ 64) < j ∧ j < 2 ^ 64 → CMul i j := fun i j h => .inr h
  have m2 : ∀ i j : Int, -(2 ^ 64) < i ∧ i < 2 ^ 64 → CMul i j := fun i j h => .inl h
  change tIf _ _ _ _ _ _
  refine pick_i (H := H) (fun c => ?_) (fun Q kq => ?_)
  · refine ⟨_, rfl, _, rfl, _, _, rfl, rfl, ⟨by decide, by decide, by decide⟩, _, _, rfl, rfl, _, _, rfl, ?_⟩
    refine ⟨_, _, rfl, rfl, ⟨by decide, by decide, by decide⟩, _, _, rfl, rfl, ⟨by decide, by decide, by decide⟩, _, _, rfl, rfl, ?_, _, _, rfl, rfl, ?_, ?_⟩
    · exact wide_mul (a := 1000) (b := 1000) (by decide +kernel) (by decide +kernel) (by decide) (by decide) (by decide)
    · show (0 : Int) < 10 ^ Int.toNat 57 * 10 ^ Int.toNat 60
      decide +kernel
    · refine ⟨_, rfl, _, rfl, _, rfl, _, _, rfl, rfl, (show (0 : Int) < 1152921504606846803 by decide), _, _, rfl, rfl, m1 _ _ (by decide), _, rfl, _, _, rfl, rfl, m2 _ _ (by decide), _, _, rfl, rfl, _, rfl, _, _, rfl, rfl, .inr ⟨_, rfl, _, _, rfl, rfl, m2 _ _ (by decide), _, _, rfl, rfl, _, _, rfl, rfl, (by show 3 ≤ sizeLine; decide), fun D hD => ?_⟩⟩
      exact q D hD _ _
  · refine ⟨_, rfl, _, rfl, a, _, rfl, .inl hS, _, _, rfl, rfl, _, rfl, ?_⟩
    refine ite2 (fun c => ?_) (fun _ => ?_)
    · have hl := of_decide_eq_true c
      rw [List.length_map] at hl
      have hl' : k < ns.length := by omega
      refine ⟨_, rfl, _, rfl, a, _, _, .int ns[k], rfl, rfl, hS, atI_nat (by rw [List.getElem?_map, List.getElem?_eq_getElem hl']; rfl), .inl ⟨_, rfl, kq _⟩⟩
    · exact ⟨_, rfl, _, _, rfl, rfl, m2 _ _ (by decide), _, _, rfl, rfl, kq _⟩

/-! ### _law_roll -/
def spRoll : Sp := fun vs H Q _ => ∃ (d : Addr) (m : Nat), vs = [.ref d, .int (m : Int)] ∧ 0 < m ∧ m ≤ 100 ∧ Dice H d ∧ ∀ (i : Nat) (H' : Hp), i < m → But d H H' → Dice H' d → Q (.int (i : Int)) H'
theorem scRoll : FnScope ["_law_dice_here", "_law_most", "_law_found", "_law_one", "_law_two"] ["_law_dice_here", "_law_most"] (defScope sRoll) := ⟨rfl, rfl, rfl, by decide +kernel, rfl, by decide +kernel, by decide +kernel⟩
theorem ok_roll (F : Fun K "_law_roll" "_law_roll" sRoll f fd) (T : Txt mg) : FnOk P w K mg base CX0 1 f fd ["_law_dice_here", "_law_most"] spRoll := by
  refine F.ok scRoll (fun vs H Q E h => ?_) (fun cdv A outer s H vs Q E hr h => ?_)
  · obtain ⟨d, m, rfl, _⟩ := h
    rfl
  obtain ⟨d, m, rfl, h0, h1, ⟨x, y, z, hd⟩, q⟩ := h
  refine ⟨_, pss_cons (ps_if (pt_cmpR op_gt (pe_ix ix_list (pv 0) pe_int (fun _ _ => rfl)) pe_int (nomark _))
      (pss_cons (ps_set (i := 2) scRoll.nd rfl (.inl rfl) (pe_op op_mod (pe_callTy call_int1 (by rfl) T.tint (by decide +kernel) (pa_cons (pe_ix ix_list (pv 0) pe_int (fun _ _ => rfl)) pa_nil)) (pv 1)))
        (pss_cons (ps_asg (pe_op op_fdiv (pe_ix ix_list (pv 0) pe_int (fun _ _ => rfl)) (pv 1)) (pg_sub (pv 0) pe_int set_list)) (pss_one (ps_ret (pv 2))))) pss_nil)
    (pss_cons (ps_asg (pe_op op_add (pe_ix ix_list (pv 0) pe_int (fun _ _ => rfl)) pe_int) (pg_sub (pv 0) pe_int set_list))
    (pss_cons (ps_set (i := 3) scRoll.nd rfl (.inl rfl) (pe_op op_mod (pe_callTy call_int1 (by rfl) T.tint (by decide +kernel) (pa_cons (pe_op op_add (pe_ix ix_list (pv 0) pe_int (fun _ _ => rfl)) (pe_op op_mul pe_int (pe_ix ix_list (pv 0) pe_int (fun _ _ => rfl)))) pa_nil)) pe_int))
    (pss_cons (ps_set (i := 4) scRoll.nd rfl (.inl rfl) (pe_op op_add (pe_op op_mul (pe_op op_mod (pe_callTy call_int1 (by rfl) T.tint (by decide +kernel) (pa_cons (pe_op op_add (pe_op op_mul (pv 3) (pv 3)) (pe_op op_mul pe_int (pe_ix ix_list (pv 0) pe_int (fun _ _ => rfl)))) pa_nil)) pe_int) pe_int) (pv 3)))
    (pss_one (ps_ret (pe_op op_mod (pe_callTy call_int1 (by rfl) T.tint (by decide +kernel) (pa_cons (pe_op op_fdiv (pv 4) pe_int) pa_nil)) (pv 1))))))), ?_⟩
  have m1 : ∀ i j : Int, -(2 ^ 64) < j ∧ j < 2 ^ 64 → CMul i j := fun i j h => .inr h
  have m2 : ∀ i j : Int, -(2 ^ 64) < i ∧ i < 2 ^ 64 → CMul i j := fun i j h => .inl h
  have fin : ∀ (t : Int) (H' : Hp), But d H H' → Dice H' d → Q (.int (t % (m : Int))) H' := fun t H' b di => by
    have n0 := Int.emod_nonneg t (show (m : Int) ≠ 0 by omega)
    have n1 := Int.emod_lt_of_pos t (show (0 : Int) < (m : Int) by omega)
    have e : t % (m : Int) = ((t % (m : Int)).toNat : Int) := by omega
    rw [e]
    exact q _ H' (by omega) b di
  refine ⟨_, rfl, d, _, 0, .int x, rfl, rfl, SqL.of hd, rfl, _, _, rfl, rfl, _, rfl, ?_⟩
  refine ite2 (fun c => ?_) (fun c => ?_)
  · refine ⟨_, rfl, d, _, 0, .int x, rfl, rfl, SqL.of hd, rfl, .inl ⟨_, rfl, _, rfl, _, _, rfl, rfl, (by show (0 : Int) < (m : Int); omega), ?_⟩⟩
    refine ⟨_, rfl, d, _, 0, .int x, rfl, rfl, SqL.of hd, rfl, _, rfl, _, _, rfl, rfl, (show (0 : Int) < (m : Int) ∧ (m : Int) < 1073741824 from ⟨by omega, by omega⟩), ?_⟩
    refine ⟨_, rfl, d, _, 0, 0, rfl, rfl, hd, rfl, ?_⟩
    exact ⟨_, rfl, fin x _ but_dice ⟨_, _, _, upd_same⟩⟩
  · refine ⟨_, rfl, d, _, 2, .int z, rfl, rfl, SqL.of hd, rfl, _, _, rfl, rfl, ?_⟩
    refine ⟨_, rfl, d, _, 2, 2, rfl, rfl, hd, rfl, ?_⟩
    have hd2 : (upd H d (.lst [.int x, .int y, .int (z + 1)])) d = some (.lst [.int x, .int y, .int (z + 1)]) := upd_same
    refine ⟨_, rfl, d, _, 1, .int y, rfl, rfl, SqL.of hd2, rfl, _, rfl, d, _, 2, .int (z + 1), rfl, rfl, SqL.of hd2, rfl, _, _, rfl, rfl, m2 _ _ (by decide), _, _, rfl, rfl, .inl ⟨_, rfl, _, _, rfl, rfl, (show (0 : Int) < 2305843009213693487 by decide), ?_⟩⟩
    have a0 := Int.emod_nonneg (y + 71593063 * (z + 1)) (show (2305843009213693487 : Int) ≠ 0 by decide)
    have a1 := Int.emod_lt_of_pos (y + 71593063 * (z + 1)) (show (0 : Int) < 2305843009213693487 by decide)
    refine ⟨_, rfl, _, rfl, _, _, rfl, rfl, m2 _ _ ⟨by omega, by omega⟩, _, rfl, d, _, 2, .int (z + 1), rfl, rfl, SqL.of hd2, rfl, _, _, rfl, rfl, m2 _ _ (by decide), _, _, rfl, rfl, .inl ⟨_, rfl, _, _, rfl, rfl, (show (0 : Int) < 2305843009213693253 by decide), _, _, rfl, rfl, m1 _ _ (by decide), _, rfl, _, _, rfl, rfl, ?_⟩⟩
    refine ⟨_, rfl, _, _, rfl, rfl, ⟨by decide, by decide⟩, .inl ⟨_, rfl, _, rfl, _, _, rfl, rfl, (by show (0 : Int) < (m : Int); omega), ?_⟩⟩
    exact fin _ _ but_dice ⟨_, _, _, upd_same⟩

/-! ### _law_pick -/
def spPick : Sp := fun vs H Q _ => ∃ (d l : Addr) (xs : List V), vs = [.ref d, .ref l] ∧ Dice H d ∧ l ≠ d ∧ H l = some (.lst xs) ∧ 0 < xs.length ∧ xs.length ≤ 100 ∧ ∀ (i : Nat) (v : V) (H' : Hp), xs[i]? = some v → But d H H' → Dice H' d → Q v H'
theorem scPick : FnScope ["_law_dice_here", "_law_items"] ["_law_dice_here", "_law_items"] (defScope sPick) := ⟨rfl, rfl, rfl, by decide +kernel, rfl, by decide +kernel, by decide +kernel⟩
theorem ok_pick (F : Fun K "_law_pick" "_law_pick" sPick f fd) (T : Txt mg) (C : Cal P w K mg base 1 "_law_roll" spRoll) : FnOk P w K mg base CX0 2 f fd ["_law_dice_here", "_law_items"] spPick := by
  obtain ⟨f1, fd1, ps1, G1, g1, k1, b1⟩ := C
  refine F.ok scPick (fun vs H Q E h => ?_) (fun cdv A outer s H vs Q E hr h => ?_)
  · obtain ⟨d, l, xs, rfl, _⟩ := h
    rfl
  obtain ⟨d, l, xs, rfl, hd, nl, hl, h0, h1, q⟩ := h
  refine ⟨_, pss_one (ps_ret (pe_ix ix_list (pv 1) (pe_call G1 hr (by rfl) g1 k1 b1 .nil pass0 (pa_cons (pv 0) (pa_cons (pe_callB call_len_seq (by rfl) T.len PySem.boot_len (pa_cons (pv 1) pa_nil)) pa_nil))) (fun _ _ => rfl))), ?_⟩
  refine ⟨_, rfl, _, rfl, _, rfl, l, xs, rfl, .inl (SqL.of hl), d, xs.length, rfl, h0, h1, hd, fun i H2 hi b2 d2 => ?_⟩
  exact ⟨l, xs, i, xs[i], rfl, rfl, SqL.of (b2 l _ nl hl), atI_nat (List.getElem?_eq_getElem hi), q i _ H2 (List.getElem?_eq_getElem hi) b2 d2⟩

/-! ### _law_mixed -/
def spMixed (K : PySem.W.Frag) : Sp := fun vs H Q _ => ∃ (d l : Addr) (xs : List V) (ps : List PV), vs = [.ref d, .ref l] ∧ Dice H d ∧ l ≠ d ∧ H l = some (.lst xs) ∧ DpAll K H xs (toDs ps) ∧ goods ps ∧ nests ps ≤ 60 ∧ ps.length ≤ 60 ∧
  ∀ (D : Addr) (H' : Hp) (out : List V) (qs : List PV), H D = none → But d H H' → Dice H' d → H' D = some (.lst out) → DpAll K H' out (toDs qs) → qs.Perm ps → Q (.ref D) H'
theorem scMixed : FnScope ["_law_dice_here", "_law_items", "_law_left", "_law_found"] ["_law_dice_here", "_law_items"] (defScope sMixed) := ⟨rfl, rfl, rfl, by decide +kernel, rfl, by decide +kernel, by decide +kernel⟩
theorem ok_mixed (F : Fun K "_law_mixed" "_law_mixed" sMixed f fd) (T : Txt mg) (C : Cal P w K mg base 1 "_law_roll" spRoll) : FnOk P w K mg base CX0 2 f fd ["_law_dice_here", "_law_items"] (spMixed K) := by
  obtain ⟨f1, fd1, ps1, G1, g1, k1, b1⟩ := C
  refine F.ok scMixed (fun vs H Q E h => ?_) (fun cdv A outer s H vs Q E hr h => ?_)
  · obtain ⟨d, l, xs, ps, rfl, _⟩ := h
    rfl
  obtain ⟨d, l, xs, ps, rfl, hd, nl, hl, dx, gp, np, h60, q⟩ := h
  have hu := hr.units
  refine ⟨_, pss_cons (ps_par (i := 2) (j := 3) (by rfl) scMixed.nd rfl rfl (by decide) rfl rfl (pa_cons (pe_callTy call_list_of (by rfl) T.tlist (by decide +kernel) (pa_cons (pv 1) pa_nil)) (pa_cons (pe_lst pa_nil) pa_nil)) (by rfl))
    (pss_cons (ps_while PassesOwn.never (pt_cmpR (op_neD hu) (pv 2) (pe_lst pa_nil) (nomark _))
      (pss_one (ps_expr (pe_bm PySem.F.plainAttrs_list PySem.F.slot_list_append PySem.F.type_list_append mt_append (pv 3) (pa_cons
        (pe_bm PySem.F.plainAttrs_list PySem.F.slot_list_pop PySem.F.type_list_pop mt_popAt (pv 2) (pa_cons (pe_call G1 hr (by rfl) g1 k1 b1 .nil pass0 (pa_cons (pv 0) (pa_cons (pe_callB call_len_seq (by rfl) T.len PySem.boot_len (pa_cons (pv 2) pa_nil)) pa_nil))) pa_nil)) pa_nil)))))
    (pss_one (ps_ret (pv 3)))), ?_⟩
  have lx := dps_len dx
  refine ⟨_, rfl, l, xs, rfl, .inl (SqL.of hl), fun L hL => ⟨Nat.zero_le _, fun F hF => ⟨_, _, rfl, ?_⟩⟩⟩
  have nLF : L ≠ F := fun z => by
    subst z
    rw [upd_same] at hF
    cases hF
  have hF0 : H F = none := by rw [upd_ne nLF.symm] at hF; exact hF
  have ndL := hd.ne hL
  have ndF := hd.ne hF0
  have s0 : Same H (upd (upd H L (.lst xs)) F (.lst [])) := (same_upd hL).trans (same_upd hF)
  refine ⟨fun m σ H' => ∃ (us ws : List V) (as bs : List PV), σ = [some (.ref d), some (.ref l), some (.ref L), some (.ref F)] ∧ m = as.length ∧ But d H H' ∧ Dice H' d ∧ H' L = some (.lst us) ∧ H' F = some (.lst ws) ∧ DpAll K H' us (toDs as) ∧ DpAll K H' ws (toDs bs) ∧ (as ++ bs).Perm ps,
    ⟨_, xs, [], ps, [], rfl, rfl, But.same s0, hd.same s0, by rw [upd_ne nLF, upd_same], upd_same, dps_tups (Tups.same s0) _ dx, by simp only [toDs]; exact .nil, by rw [List.append_nil]⟩, fun m σ H' hW => ?_⟩
  obtain ⟨us, ws, as, bs, rfl, rfl, bt, di, eL, eF, du, dw, pm⟩ := hW
  have lu := dps_len du
  have lw := dps_len dw
  have lab := pm.length_eq
  rw [List.length_append] at lab
  have ga : goods as := goods_mem.mpr fun p hp => goods_mem.mp gp p (pm.subset (List.mem_append_left _ hp))
  have na : nests as ≤ 60 := nests_le fun p hp => Nat.le_trans (nests_mem (pm.subset (List.mem_append_left _ hp))) np
  refine ⟨_, rfl, Nat.zero_le _, fun e he => ?_⟩
  refine not_nil he (SqL.of eL) du ga na ⟨_, rfl, ?_⟩
  have sE := same_upd (o := .lst []) he
  have bt1 := bt.trans (But.same sE)
  have di1 := di.same sE
  have eL1 := sE _ _ eL
  have eF1 := sE _ _ eF
  have du1 := dps_tups (Tups.same sE) _ du
  have dw1 := dps_tups (Tups.same sE) _ dw
  generalize upd H' e (.lst []) = H1 at bt1 di1 eL1 eF1 du1 dw1 ⊢
  cases as with
  | nil => exact iteF ⟨_, rfl, q F H1 ws bs hF0 bt1 di1 eF1 dw1 pm⟩
  | cons p0 as0 =>
    generalize hAs : p0 :: as0 = as at *
    have hpos : 0 < as.length := by rw [← hAs]; exact Nat.succ_pos _
    have hne : (!as.isEmpty) = true := by rw [← hAs]; rfl
    rw [hne]
    refine iteT ⟨fun σ' H2 => ∃ m', m' < as.length ∧ ∃ (us ws : List V) (as bs : List PV), σ' = [some (.ref d), some (.ref l), some (.ref L), some (.ref F)] ∧ m' = as.length ∧ But d H H2 ∧ Dice H2 d ∧ H2 L = some (.lst us) ∧ H2 F = some (.lst ws) ∧ DpAll K H2 us (toDs as) ∧ DpAll K H2 ws (toDs bs) ∧ (as ++ bs).Perm ps, fun _ _ h => h, ?_⟩
    refine ⟨_, rfl, .inl ⟨rfl, _, SqL.of eF1⟩, _, rfl, .inl ⟨rfl, _, SqL.of eL1⟩, _, rfl, _, rfl, L, us, rfl, .inl (SqL.of eL1), d, us.length, rfl, by omega, by omega, di1, fun i H2 hi b2 d2 => ?_⟩
    have eL2 := b2 L _ ndL.symm eL1
    have eF2 := b2 F _ ndF.symm eF1
    have T2 := But.tups b2 di1
    have du2 := dps_tups T2 _ du1
    have dw2 := dps_tups T2 _ dw1
    have hia : i < as.length := by omega
    refine ⟨L, us, i, i, us[i], rfl, rfl, eL2, by omega, by omega, (ixN_seq (ixN_ofNat hi)).1, List.getElem?_eq_getElem hi, ?_⟩
    refine ⟨F, ws, us[i], rfl, rfl, by rw [upd_ne nLF.symm]; exact eF2, by rw [sizeLine_eq]; omega, ?_⟩
    have T3 : Tups H2 (upd (upd H2 L (.lst (us.eraseIdx i))) F (.lst (ws ++ [us[i]]))) := (tups_upd eL2).trans (tups_upd (by rw [upd_ne nLF.symm]; exact eF2))
    obtain ⟨p, hp, dp⟩ := dps_get du2 (List.getElem?_eq_getElem hi)
    have ep : as[i] = p := by
      rw [List.getElem?_eq_getElem hia] at hp
      exact Option.some.inj hp
    refine ⟨_, ?_, us.eraseIdx i, ws ++ [us[i]], as.eraseIdx i, bs ++ [p], rfl, rfl, but_put (but_put (bt1.trans b2) hL) hF0, (d2.put ndL).put ndF, by rw [upd_ne nLF, upd_same], upd_same, ?_, dps_app (dps_tups T3 _ dw2) (dps_one (dp_tups T3 _ dp)), ?_⟩
    · rw [List.length_eraseIdx, if_pos hia]
      omega
    · have e1 := dps_app (dps_take i du2) (dps_drop (i + 1) du2)
      rw [← List.eraseIdx_eq_take_drop_succ, ← List.eraseIdx_eq_take_drop_succ] at e1
      exact dps_tups T3 _ e1
    · refine List.Perm.trans ?_ pm
      rw [← List.append_assoc]
      refine List.Perm.trans (List.perm_append_comm (l₁ := as.eraseIdx i ++ bs) (l₂ := [p])) ?_
      rw [List.singleton_append, ← List.cons_append]
      exact (erase_perm1 as i p hp).append_right bs
end
end K1

namespace K1
open PySem PySem.Spec PyProof.Rows L2
def Bz : Nat → Nat
  | 0 => 2
  | n + 1 => 3 * Bz n + 2
theorem pick_c {R : Bool → Hp → Prop} {G : (Bool → Hp → Prop) → Prop} {Q : Bool → Hp → Prop} (k : ∀ b H2, R b H2 → Q b H2) (g : ∀ Q : Bool → Hp → Prop, (∀ b H2, R b H2 → Q b H2) → G Q) : G Q := g Q k
theorem szs_sub {ps qs : List PV} (h : ps.Sublist qs) : szs ps ≤ szs qs := by
  induction h with
  | slnil => exact Nat.le_refl _
  | cons a _ ih => simp only [szs]; omega
  | cons_cons a _ ih => simp only [szs]; omega
theorem atom10 : (-1000000000000000000000000000000000000000000000000000000000000 : Int) < 10 ^ Int.toNat 60 - 1 ∧ (10 ^ Int.toNat 60 - 1 : Int) < 1000000000000000000000000000000000000000000000000000000000000 := by decide +kernel
theorem good_str {x : Str} (h : goodS x) : good (.str x) := by simp only [good]; exact h
section
variable {P : Program} {w : World} {K : PySem.W.Frag} {mg : Str → Option Value} {base : Heap} {f : Addr} {fd : FuncData}
/-! ### _law_va_plain -/
def spVa (K : PySem.W.Frag) (n : Nat) : Sp := fun vs H Q _ => ∃ d : Addr, vs = [.ref d, .int (n : Int)] ∧ Dice H d ∧ ∀ (x : V) (H' : Hp) (p : PV), But d H H' → Dice H' d → Dp K H' x (toD p) → good p → nest p ≤ n + 1 → sz p ≤ Bz n → Q x H'
def spVaPrev (K : PySem.W.Frag) : Nat → Sp
  | 0 => fun _ _ _ _ => False
  | n + 1 => spVa K n
theorem scVaPlain : FnScope ["_law_dice_here", "_law_deep", "_law_turn"] ["_law_dice_here", "_law_deep"] (defScope sVaPlain) := ⟨rfl, rfl, rfl, by decide +kernel, rfl, by decide +kernel, by decide +kernel⟩
/-- the leaves -/
def leaves (r : Int) : List PV := [.non, .int 0, .int 1, .int (-1), .int 9, .int 10, .int (-10), .int (10 ^ Int.toNat 60 - 1), .str "", .str "a", .str "b", .str "ab", .str "9", .str "10", .str " ", .str "a b", .tup [], .int (7 - r)]
theorem leaves_ok {r : Int} (h0 : 0 ≤ r) (h1 : r < 15) : ∀ p ∈ leaves r, good p ∧ nest p ≤ 1 ∧ sz p ≤ 2 := by
  intro p hp
  unfold leaves at hp
  simp only [List.mem_cons, List.not_mem_nil, or_false] at hp
  rcases hp with rfl | rfl | rfl | rfl | rfl | rfl | rfl | rfl | rfl | rfl | rfl | rfl | rfl | rfl | rfl | rfl | rfl | rfl
  all_goals first
    | (simp only [good, goods, nest, nests, sz, szs]; exact ⟨⟨by omega, by omega⟩, by decide, by decide⟩)
    | (simp only [good, goods, nest, nests, sz, szs]; exact ⟨atom10, by decide, by decide⟩)
    | (simp only [good, goods, nest, nests, sz, szs]; exact ⟨trivial, by decide, by decide⟩)
    | (simp only [good, goods, nest, nests, sz, szs]; exact ⟨⟨by decide +kernel, by decide +kernel⟩, by decide, by decide⟩)
theorem ok_va_one (n : Nat) (F : Fun K "_law_va_plain" "_law_va_plain" sVaPlain f fd) (T : Txt mg) (C1 : Cal P w K mg base 1 "_law_roll" spRoll) (C2 : Cal P w K mg base 2 "_law_pick" spPick) (C3 : Cal P w K mg base (3 + n) "_law_va_plain" (spVaPrev K n)) :
    FnOk P w K mg base CX0 (4 + n) f fd ["_law_dice_here", "_law_deep"] (spVa K n) := by
  obtain ⟨f1, fd1, ps1, G1, g1, k1, b1⟩ := C1
  obtain ⟨f2, fd2, ps2, G2, g2, k2, b2⟩ := C2
  obtain ⟨f3, fd3, ps3, G3, g3, k3, b3⟩ := C3
  have e4 : 4 + n = (3 + n) + 1 := by omega
  rw [e4]
  refine F.ok scVaPlain (fun vs H Q E h => ?_) (fun cdv A outer s H vs Q E hr h => ?_)
  · obtain ⟨d, rfl, _⟩ := h
    rfl
  obtain ⟨d, rfl, hd, q⟩ := h
  refine ⟨_, pss_cons (ps_if (PW.pt (pw_or (pt_cmpR op_eq (pv 1) pe_int (nomark _)) (pw_or1 (pt_cmpR op_eq (pe_call G1 (hr.mono (by omega)) (by rfl) g1 k1 b1 .nil pass0 (pa_cons (pv 0) (pa_cons pe_int pa_nil))) pe_int (nomark _)))))
      (pss_one (ps_ret (pe_call G2 (hr.mono (by omega)) (by rfl) g2 k2 b2 .nil pass0 (pa_cons (pv 0) (pa_cons (pe_lst (pa_cons pe_non (pa_cons pe_int (pa_cons pe_int (pa_cons (pe_un un_neg pe_int) (pa_cons pe_int (pa_cons pe_int (pa_cons (pe_un un_neg pe_int) (pa_cons (pe_op op_sub (pe_op op_pow pe_int pe_int) pe_int)
        (pa_cons pe_str (pa_cons pe_str (pa_cons pe_str (pa_cons pe_str (pa_cons pe_str (pa_cons pe_str (pa_cons pe_str (pa_cons pe_str (pa_cons (pe_tup pa_nil) (pa_cons (pe_op op_sub pe_int (pe_call G1 (hr.mono (by omega)) (by rfl) g1 k1 b1 .nil pass0 (pa_cons (pv 0) (pa_cons pe_int pa_nil)))) pa_nil))))))))))))))))))) pa_nil))))) pss_nil)
    (pss_one (ps_ret (pe_callTy call_tuple_of (by rfl) T.ttup (by decide +kernel) (pa_cons
      (pe_lc (own := [("_law_turn", 2)]) (g := gName 2) (tt := tYes) (by rfl) scVaPlain.nd (pi_range1 (by rfl) T.range (pa_cons (pe_call G1 (hr.mono (by omega)) (by rfl) g1 k1 b1 .nil pass0 (pa_cons (pv 0) (pa_cons pe_int pa_nil))) pa_nil))
        (blkOk_by (own := [("_law_turn", 2)]) (N := ["_law_dice_here", "_law_deep", "_law_turn"]) (sc := defScope sVaPlain) (by decide +kernel))
        (fun _ _ _ _ _ => pg_name (i := 2) scVaPlain.nd rfl (Or.inl rfl)) (fun _ _ _ _ _ => pts_nil) (fun _ _ _ _ _ => pe_call G3 hr (by rfl) g3 k3 b3 .nil pass0 (pa_cons (pv 0) (pa_cons (pe_op op_sub (pv 1) pe_int) pa_nil)))) pa_nil)))), ?_⟩
  change (tOr _ _) _ _ _
  refine pick_c (R := fun (b : Bool) H2 => But d H H2 ∧ Dice H2 d ∧ (b = false → 0 < n)) (fun b H2 hR => ?_) (fun Q kq => ?_)
  · obtain ⟨bt, di, hb⟩ := hR
    cases b with
    | true =>
      refine iteT ?_
      refine ⟨_, rfl, 1, rfl, 10, rfl, _, _, rfl, rfl, ⟨by decide, by decide, by decide⟩, _, _, rfl, rfl, (by show 0 ≤ sizeLine; decide), fun t ht => ?_⟩
      have sT := same_upd (o := .tup []) ht
      refine ⟨_, rfl, d, 15, rfl, by decide, by decide, di.same sT, fun r H3 hr3 bt3 di3 => ?_⟩
      refine ⟨_, _, rfl, rfl, (by show 18 ≤ sizeLine; decide), fun D hD => ?_⟩
      have sD := same_upd (o := .lst [V.non, .int 0, .int 1, .int (-1), .int 9, .int 10, .int (-10), .int (10 ^ Int.toNat 60 - 1), .str "", .str "a", .str "b", .str "ab", .str "9", .str "10", .str " ", .str "a b", .ref t, .int (7 - (r : Int))]) hD
      have nDd : D ≠ d := (di3.ne hD).symm
      have nTd : t ≠ d := (di.ne ht).symm
      have eT : H3 t = some (.tup []) := bt3 t _ nTd upd_same
      have dl : DpAll K (upd H3 D (.lst [V.non, .int 0, .int 1, .int (-1), .int 9, .int 10, .int (-10), .int (10 ^ Int.toNat 60 - 1), .str "", .str "a", .str "b", .str "ab", .str "9", .str "10", .str " ", .str "a b", .ref t, .int (7 - (r : Int))]))
          [V.non, .int 0, .int 1, .int (-1), .int 9, .int 10, .int (-10), .int (10 ^ Int.toNat 60 - 1), .str "", .str "a", .str "b", .str "ab", .str "9", .str "10", .str " ", .str "a b", .ref t, .int (7 - (r : Int))] (toDs (leaves (r : Int))) := by
        unfold leaves
        simp only [toDs, toD]
        exact .cons .non (.cons (.int _) (.cons (.int _) (.cons (.int _) (.cons (.int _) (.cons (.int _) (.cons (.int _) (.cons (.int _) (.cons (.str _) (.cons (.str _) (.cons (.str _) (.cons (.str _) (.cons (.str _) (.cons (.str _) (.cons (.str _) (.cons (.str _) (.cons (.tup (SqT.of (sD _ _ eT)) .nil) (.cons (.int _) .nil)))))))))))))))))
      refine ⟨d, D, _, rfl, di3.same sD, nDd, upd_same, by show 0 < 18; decide, by show 18 ≤ 100; decide, fun i v H4 hv bt4 di4 => ?_⟩
      have T4 := But.tups bt4 (di3.same sD)
      obtain ⟨p, hp, dp⟩ := dps_get dl hv
      obtain ⟨g, n1, z1⟩ := leaves_ok (r := (r : Int)) (by omega) (by omega) p (List.mem_of_getElem? hp)
      have bz : 2 ≤ Bz n := by cases n <;> simp only [Bz] <;> omega
      exact q v H4 p (bt.trans ((But.same sT).trans (bt3.trans ((But.same sD).trans bt4)))) di4 (dp_tups T4 _ dp) g (by omega) (by omega)
    | false =>
      refine iteF ?_
      obtain ⟨n', rfl⟩ : ∃ n', n = n' + 1 := ⟨n - 1, by have := hb rfl; omega⟩
      refine ⟨_, rfl, d, 4, rfl, by decide, by decide, di, fun r H3 hr3 bt3 di3 => ?_⟩
      refine ⟨_, rfl, by omega, by omega, fun D hD => ?_⟩
      have ndD := di3.ne hD
      refine lc_range (fun i H4 => ∃ (acc : List V) (as : List PV), But d H3 H4 ∧ Dice H4 d ∧ H4 D = some (.lst acc) ∧ DpAll K H4 acc (toDs as) ∧ acc.length = i ∧ goods as ∧ nests as ≤ n' + 1 ∧ szs as ≤ i * Bz n')
        ⟨[], [], But.same (same_upd hD), di3.same (same_upd hD), upd_same, by simp only [toDs]; exact .nil, rfl, by simp only [goods], by simp only [nests]; omega, by simp only [szs]; omega⟩ (fun i H4 hi hP => ?_) (fun H4 hP => ?_)
      · obtain ⟨acc, as, bt4, di4, e4, d4, l4, ga, na, za⟩ := hP
        refine ⟨rfl, yes_lc ?_⟩
        refine ⟨_, rfl, _, rfl, _, _, rfl, rfl, ?_⟩
        have en : ((n' + 1 : Nat) : Int) - 1 = (n' : Int) := by omega
        refine ⟨d, (by show [V.ref d, V.int (((n' + 1 : Nat) : Int) - 1)] = _; rw [en]), di4, fun x H5 p bt5 di5 dp gp np zp => ?_⟩
        have e5 := bt5 D _ ndD.symm e4
        have T5 := But.tups bt5 di4
        have T6 : Tups H5 (upd H5 D (.lst (acc ++ [x]))) := tups_upd e5
        refine ⟨acc, e5, by rw [sizeLine_eq]; omega, acc ++ [x], as ++ [p], but_put (bt4.trans bt5) hD, di5.put ndD, upd_same, dps_app (dps_tups (T5.trans T6) _ d4) (dps_one (dp_tups T6 _ dp)), by simp [l4], ?_, ?_, ?_⟩
        · exact goods_mem.mpr fun z hz => by
            rcases List.mem_append.mp hz with hz | hz
            · exact goods_mem.mp ga z hz
            · rw [List.mem_singleton.mp hz]
              exact gp
        · refine nests_le fun z hz => ?_
          rcases List.mem_append.mp hz with hz | hz
          · exact Nat.le_trans (nests_mem hz) na
          · rw [List.mem_singleton.mp hz]
            exact np
        · rw [szs_app, Nat.succ_mul]
          simp only [szs]
          omega
      · obtain ⟨acc, as, bt4, di4, e4, d4, l4, ga, na, za⟩ := hP
        refine ⟨D, acc, rfl, .inl ⟨SqL.of e4, fun l hl => ?_⟩⟩
        have sL := same_upd (o := .tup acc) hl
        have r3 : (r : Int).toNat ≤ 3 := by omega
        have zz : szs as ≤ 3 * Bz n' := Nat.le_trans za (Nat.mul_le_mul_right _ r3)
        refine q (.ref l) _ (.tup as) (bt.trans (bt3.trans (bt4.trans (But.same sL)))) (di4.same sL) (dp_mk (SqT.of upd_same) (dps_tups (Tups.same sL) _ d4)) ?_ ?_ ?_
        · simp only [good]
          exact ga
        · simp only [nest]
          omega
        · simp only [sz, Bz]
          omega
  · refine ⟨_, rfl, rfl, _, rfl, ?_⟩
    refine ite2 (fun c => ?_) (fun c => ?_)
    · exact kq true H ⟨But.refl d H, hd, fun z => by cases z⟩
    · have n0 : 0 < n := by
        cases n with
        | zero => exact absurd (decide_eq_true rfl) c
        | succ n => omega
      refine ⟨_, rfl, d, 3, rfl, by decide, by decide, hd, fun r H2 hr2 bt di => ?_⟩
      exact ⟨rfl, _, rfl, kq _ H2 ⟨bt, di, fun _ => n0⟩⟩
theorem ok_va (F : Fun K "_law_va_plain" "_law_va_plain" sVaPlain f fd) (T : Txt mg) (C1 : Cal P w K mg base 1 "_law_roll" spRoll) (C2 : Cal P w K mg base 2 "_law_pick" spPick) (hm : mg "_law_va_plain" = some (.ref f)) (hk : PySem.W.keepIn K (.ref f) = true) (hb : Binds K fd ["_law_dice_here", "_law_deep"] []) :
    ∀ n : Nat, FnOk P w K mg base CX0 (4 + n) f fd ["_law_dice_here", "_law_deep"] (spVa K n)
  | 0 => ok_va_one 0 F T C1 C2 ⟨f, fd, ["_law_dice_here", "_law_deep"], ⟨fun _ _ _ _ h => h.elim, fun _ _ _ _ _ _ _ _ _ _ _ _ _ h => h.elim⟩, hm, hk, hb⟩
  | n + 1 => ok_va_one (n + 1) F T C1 C2 ⟨f, fd, _, (ok_va F T C1 C2 hm hk hb n).mono (by omega), hm, hk, hb⟩
end
end K1

namespace K1
open PySem PySem.Spec PyProof.Rows L2
/-! ### tuples joined and cut -/
def okV (n z : Nat) (p : PV) : Prop := good p ∧ nest p ≤ n ∧ sz p ≤ z
theorem okV.mono {n z n2 z2 : Nat} {p : PV} (h : okV n z p) (hn : n ≤ n2) (hz : z ≤ z2) : okV n2 z2 p := ⟨h.1, Nat.le_trans h.2.1 hn, Nat.le_trans h.2.2 hz⟩
theorem okV_tup {n z : Nat} {ps : List PV} (h1 : ∀ p ∈ ps, good p ∧ nest p ≤ n) (h2 : szs ps + 2 ≤ z) : okV (n + 1) z (.tup ps) := by
  refine ⟨?_, ?_, ?_⟩
  · simp only [good]
    exact goods_mem.mpr fun p hp => (h1 p hp).1
  · simp only [nest]
    have := nests_le (n := n) fun p hp => (h1 p hp).2
    omega
  · simp only [sz]
    exact h2
theorem okV_mem {n z : Nat} {ps : List PV} (h : okV (n + 1) z (.tup ps)) : ∀ p ∈ ps, good p ∧ nest p ≤ n := fun p hp => by
  obtain ⟨a, b, _⟩ := h
  simp only [good] at a
  simp only [nest] at b
  have := nests_mem hp
  exact ⟨goods_mem.mp a p hp, by omega⟩
theorem okV_sz {n z : Nat} {ps : List PV} (h : okV n z (.tup ps)) : szs ps + 2 ≤ z := by
  have := h.2.2
  simpa only [sz] using this
section
variable {K : PySem.W.Frag} {H H' : Hp}
theorem cat_read {a b : Addr} {xs ys : List V} {ps qs : List PV} {Q : VK} (ha : SqT K H a xs) (hb : SqT K H b ys) (da : DpAll K H xs (toDs ps)) (db : DpAll K H ys (toDs qs)) (hz : xs.length + ys.length ≤ sizeLine)
    (k : ∀ (r : Addr) (zs : List V) (H' : Hp), Same H H' → SqT K H' r zs → DpAll K H' zs (toDs (ps ++ qs)) → Q (.ref r) H') : rCatA K (.ref a) (.ref b) H Q := by
  refine ⟨a, b, xs, ys, rfl, rfl, ha, hb, hz, fun e => ?_, fun _ e => ?_, fun _ _ p hp => ?_⟩
  · have l := dps_len da
    rw [e] at l
    have e2 : ps = [] := List.eq_nil_of_length_eq_zero l.symm
    subst e2
    exact k b ys H (Same.refl H) hb db
  · have l := dps_len db
    rw [e] at l
    have e2 : qs = [] := List.eq_nil_of_length_eq_zero l.symm
    subst e2
    rw [List.append_nil] at k
    exact k a xs H (Same.refl H) ha da
  · have s := same_upd (o := .tup (xs ++ ys)) hp
    exact k p _ _ s (SqT.of upd_same) (dps_tups (Tups.same s) _ (dps_app da db))
def cutP (ps : List PV) (lo hi : Option Int) : List PV := (ps.drop (HT.sIx ps.length 0 lo)).take (HT.sIx ps.length ps.length hi - HT.sIx ps.length 0 lo)
theorem cutP_sub (ps : List PV) (lo hi : Option Int) : (cutP ps lo hi).Sublist ps := (List.take_sublist _ _).trans (List.drop_sublist _ _)
theorem cut_dps {xs : List V} {ps : List PV} {lo hi : Option Int} (d : DpAll K H xs (toDs ps)) : DpAll K H (cutV xs lo hi) (toDs (cutP ps lo hi)) := by
  have l := dps_len d
  unfold cutV cutP
  rw [l]
  exact dps_take _ (dps_drop _ d)
theorem sl_read {a : Addr} {xs : List V} {ps : List PV} {lo hi : Option Int} {Q : VK} (ha : SqT K H a xs) (da : DpAll K H xs (toDs ps))
    (k : ∀ (r : Addr) (zs : List V) (H' : Hp), Same H H' → SqT K H' r zs → DpAll K H' zs (toDs (cutP ps lo hi)) → Q (.ref r) H') : rSlA K (.ref a) lo hi H Q := by
  have l := dps_len da
  refine ⟨a, xs, rfl, ha, fun e => ?_, fun _ p hp => ?_⟩
  · have e2 : cutP ps lo hi = ps := by
      unfold cutP
      rw [← l, e.1, e.2, List.drop_zero, Nat.sub_zero, List.take_of_length_le (by omega)]
    rw [e2] at k
    exact k a xs H (Same.refl H) ha da
  · have s := same_upd (o := .tup (cutV xs lo hi)) hp
    exact k p _ _ s (SqT.of upd_same) (dps_tups (Tups.same s) _ (cut_dps da))
theorem Same.seqT {a : Addr} {xs : List V} (e : Same H H') (h : SqT K H a xs) : SqT K H' a xs := (Tups.same e).seq h
theorem cut_two (ps : List PV) (r : Nat) : szs (cutP ps none (some (r : Int))) + szs (cutP ps (some ((r : Int) + 1)) none) ≤ szs ps := by
  have e1 : cutP ps none (some (r : Int)) = ps.take (min r ps.length) := by
    unfold cutP
    rw [HT.sIx_nat, HT.sIx_none, List.drop_zero, Nat.sub_zero]
  have e2 : cutP ps (some ((r : Int) + 1)) none = ps.drop (min (r + 1) ps.length) := by
    unfold cutP
    rw [show ((r : Int) + 1) = ((r + 1 : Nat) : Int) by omega, HT.sIx_nat, HT.sIx_none, List.take_of_length_le (by rw [List.length_drop]; omega)]
  rw [e1, e2, ← szs_app]
  refine szs_sub ?_
  have h : (ps.drop (min (r + 1) ps.length)).Sublist (ps.drop (min r ps.length)) := by
    have : ps.drop (min (r + 1) ps.length) = (ps.drop (min r ps.length)).drop (min (r + 1) ps.length - min r ps.length) := by
      rw [List.drop_drop]
      congr 1
      omega
    rw [this]
    exact List.drop_sublist _ _
  have := (List.Sublist.refl (ps.take (min r ps.length))).append h
  rwa [List.take_append_drop] at this
theorem eqv_tnil (ps : List PV) : PyData.eqv (toD (.tup ps)) (toD (.tup [])) = ps.isEmpty := by
  cases ps with
  | nil => simp only [toD, toDs, PyData.eqv, PyData.eqvAll]; rfl
  | cons p ps => simp only [toD, toDs, PyData.eqv, PyData.eqvAll]; rfl
end
section
variable {P : Program} {w : World} {K : PySem.W.Frag} {mg : Str → Option Value} {base : Heap} {f : Addr} {fd : FuncData}
/-! ### _law_va_near -/
def spNear (K : PySem.W.Frag) : Sp := fun vs H Q _ => ∃ (d : Addr) (v : V) (p : PV), vs = [.ref d, v] ∧ Dice H d ∧ Dp K H v (toD p) ∧ okV 4 80 p ∧ ∀ (x : V) (H' : Hp) (q : PV), But d H H' → Dice H' d → Dp K H' x (toD q) → okV 5 100 q → Q x H'
theorem scNear : FnScope ["_law_dice_here", "_law_value", "_law_at", "_law_some"] ["_law_dice_here", "_law_value"] (defScope sVaNear) := ⟨rfl, rfl, rfl, by decide +kernel, rfl, by decide +kernel, by decide +kernel⟩
theorem ok_near (F : Fun K "_law_va_near" "_law_va_near" sVaNear f fd) (T : Txt mg) (C1 : Cal P w K mg base 1 "_law_roll" spRoll) (C2 : Cal P w K mg base 2 "_law_pick" spPick) (C3 : Cal P w K mg base 5 "_law_va_plain" (spVa K 1)) :
    FnOk P w K mg base CX0 6 f fd ["_law_dice_here", "_law_value"] (spNear K) := by
  obtain ⟨f1, fd1, ps1, G1, g1, k1, b1⟩ := C1
  obtain ⟨f2, fd2, ps2, G2, g2, k2, b2⟩ := C2
  obtain ⟨f3, fd3, ps3, G3, g3, k3, b3⟩ := C3
  refine F.ok scNear (fun vs H Q E h => ?_) (fun cdv A outer s H vs Q E hr h => ?_)
  · obtain ⟨d, v, p, rfl, _⟩ := h
    rfl
  obtain ⟨d, v, p, rfl, hd, dv, ov, q⟩ := h
  have hu := hr.units
  refine ⟨_, pss_cons (ps_if (PW.pt (pw_or (pt_not (pt_val (pe_isP (.inr (.inr (.inl rfl))) (by rfl) T.isi (by rfl) T.ttup (by decide +kernel) (pv 1)))) (pw_or1 (pt_cmpR (op_eqD hu) (pv 1) (pe_tup pa_nil) (nomark _)))))
      (pss_one (ps_ret (pe_call G2 (hr.mono (by decide)) (by rfl) g2 k2 b2 .nil pass0 (pa_cons (pv 0) (pa_cons (pe_lst (pa_cons (pv 1) (pa_cons (pe_tup (pa_cons (pv 1) pa_nil)) (pa_cons (pe_tup (pa_cons (pv 1) (pa_cons pe_non pa_nil))) (pa_cons pe_non pa_nil))))) pa_nil))))) pss_nil)
    (pss_cons (ps_set (i := 2) scNear.nd rfl (.inl rfl) (pe_call G1 (hr.mono (by decide)) (by rfl) g1 k1 b1 .nil pass0 (pa_cons (pv 0) (pa_cons (pe_callB call_len_seq (by rfl) T.len PySem.boot_len (pa_cons (pv 1) pa_nil)) pa_nil))))
    (pss_cons (ps_set (i := 3) scNear.nd rfl (.inl rfl) (pe_lst
      (pa_cons (pe_op op_catA (pv 1) (pe_tup (pa_cons pe_non pa_nil)))
      (pa_cons (pe_slice sl_tupA (pv 1) po_none (po_some (pe_un un_neg pe_int)))
      (pa_cons (pe_op op_catA (pe_op op_catA (pe_slice sl_tupA (pv 1) po_none (po_some (pv 2))) (pe_tup (pa_cons (pe_call G3 hr (by rfl) g3 k3 b3 .nil pass0 (pa_cons (pv 0) (pa_cons pe_int pa_nil))) pa_nil))) (pe_slice sl_tupA (pv 1) (po_some (pe_op op_add (pv 2) pe_int)) po_none))
      (pa_cons (pv 1) (pa_cons (pe_ix ix_tup (pv 1) (pv 2) (fun _ _ => rfl)) (pa_cons (pe_tup (pa_cons (pv 1) pa_nil)) pa_nil))))))))
    (pss_one (ps_ret (pe_call G2 (hr.mono (by decide)) (by rfl) g2 k2 b2 .nil pass0 (pa_cons (pv 0) (pa_cons (pv 3) pa_nil))))))), ?_⟩
  change (tOr _ _) _ _ _
  refine pick_c (R := fun (b : Bool) H2 => Same H H2 ∧ (b = false → ∃ x ps, p = .tup (x :: ps))) (fun b H2 hR => ?_) (fun Q kq => ?_)
  · obtain ⟨sm, hb⟩ := hR
    have di := hd.same sm
    have dv2 := dp_tups (Tups.same sm) _ dv
    cases b with
    | true =>
      refine iteT ?_
      refine ⟨_, rfl, _, rfl, _, rfl, (by show 1 ≤ sizeLine; decide), fun t1 h1 => ?_⟩
      refine ⟨_, rfl, (by show 2 ≤ sizeLine; decide), fun t2 h2 => ⟨(by show 4 ≤ sizeLine; decide), fun D hD => ?_⟩⟩
      have s1 := same_upd (o := .tup [v]) h1
      have s2 := same_upd (o := .tup [v, .non]) h2
      have sD := same_upd (o := .lst [v, .ref t1, .ref t2, .non]) hD
      have nDd : D ≠ d := ((di.same (s1.trans s2)).ne hD).symm
      have sA := s1.trans (s2.trans sD)
      have e1 := (s2.trans sD) _ _ (upd_same (H := H2) (a := t1) (o := .tup [v]))
      have e2 := sD _ _ (upd_same (H := upd H2 t1 (.tup [v])) (a := t2) (o := .tup [v, .non]))
      have dvA := dp_tups (Tups.same sA) _ dv2
      refine ⟨d, D, _, rfl, di.same sA, nDd, upd_same, by show 0 < 4; decide, by show 4 ≤ 100; decide, fun i x H4 hx bt4 di4 => ?_⟩
      have T4 := But.tups bt4 (di.same sA)
      have bA : But d H H4 := (But.same sm).trans ((But.same sA).trans bt4)
      have o1 : okV 5 100 (.tup [p]) := okV_tup (n := 4) (fun z hz => by rw [List.mem_singleton.mp hz]; exact ⟨ov.1, ov.2.1⟩) (by have := ov.2.2; simp only [szs]; omega)
      have o2 : okV 5 100 (.tup [p, .non]) := okV_tup (n := 4) (fun z hz => by
        rcases List.mem_cons.mp hz with rfl | hz
        · exact ⟨ov.1, ov.2.1⟩
        · rw [List.mem_singleton.mp hz]
          simp only [good, nest]
          exact ⟨trivial, by decide⟩) (by have := ov.2.2; simp only [szs, sz]; omega)
      match i, hx with
      | 0, hx =>
        cases hx
        exact q v H4 p bA di4 (dp_tups T4 _ dvA) (ov.mono (by decide) (by decide))
      | 1, hx =>
        cases hx
        exact q _ H4 _ bA di4 (dp_tups T4 _ (dp_mk (SqT.of e1) (dps_one dvA))) o1
      | 2, hx =>
        cases hx
        exact q _ H4 _ bA di4 (dp_tups T4 _ (dp_mk (SqT.of e2) (by simp only [toDs, toD]; exact .cons dvA (.cons .non .nil)))) o2
      | 3, hx =>
        cases hx
        exact q .non H4 .non bA di4 dp_non (by simp only [okV, good, nest, sz]; exact ⟨trivial, by decide, by decide⟩)
      | i + 4, hx => simp at hx
    | false =>
      obtain ⟨p0, ps0, hp⟩ := hb rfl
      generalize hps : p0 :: ps0 = ps at hp
      have hpos : 0 < ps.length := by rw [← hps]; exact Nat.succ_pos _
      subst hp
      refine iteF ?_
      obtain ⟨a, xs, rfl, ha, dx⟩ := dp_tup dv2
      have lx := dps_len dx
      have mem := okV_mem ov
      have zz := okV_sz ov
      have ll := szs_len ps
      refine ⟨_, rfl, _, rfl, a, xs, rfl, .inr ha, d, xs.length, rfl, by omega, by omega, di, fun r H3 hr3 bt3 di3 => ?_⟩
      have T3 := But.tups bt3 di
      have ha3 := T3.seq ha
      have dx3 := dps_tups T3 _ dx
      -- value + (None,)
      refine ⟨_, rfl, (by show 1 ≤ sizeLine; decide), fun t1 h1 => ?_⟩
      have s1 := same_upd (o := .tup [.non]) h1
      refine cat_read (ps := ps) (qs := [.non]) (Same.seqT s1 ha3) (SqT.of upd_same) (dps_tups (Tups.same s1) _ dx3) (by simp only [toDs, toD]; exact .cons .non .nil) (by rw [sizeLine_eq]; simp only [List.length_singleton]; omega) fun r1 z1 H4 s4 hr1 dr1 => ?_
      have s34 := s1.trans s4
      have ha4 := Same.seqT s34 ha3
      have dx4 := dps_tups (Tups.same s34) _ dx3
      -- value[:-1]
      refine ⟨_, rfl, 1, rfl, -1, rfl, ?_⟩
      refine sl_read ha4 dx4 fun r2 z2 H5 s5 hr2 dr2 => ?_
      have ha5 := Same.seqT s5 ha4
      have dx5 := dps_tups (Tups.same s5) _ dx4
      -- value[:at]
      refine ⟨_, rfl, _, rfl, _, rfl, ?_⟩
      refine sl_read ha5 dx5 fun r3 z3 H6 s6 hr3' dr3 => ?_
      have s36 := s34.trans (s5.trans s6)
      have di6 := di3.same s36
      -- a drawn one
      refine ⟨_, rfl, d, rfl, di6, fun x7 H7 p7 bt7 di7 dp7 g7 n7 z7 => ⟨(by show 1 ≤ sizeLine; decide), fun t8 h8 => ?_⟩⟩
      have T7 := But.tups bt7 di6
      have s8 := same_upd (o := .tup [x7]) h8
      have T78 := T7.trans (Tups.same s8)
      refine cat_read (ps := cutP ps none (some (r : Int))) (qs := [p7]) (T78.seq hr3') (SqT.of upd_same) (dps_tups T78 _ dr3) (dps_one (dp_tups (Tups.same s8) _ dp7)) ?_ fun r9 z9 H9 s9 hr9 dr9 => ?_
      · have l3 := dps_len dr3
        have l3' := (cutP_sub ps none (some (r : Int))).length_le
        rw [sizeLine_eq]
        simp only [List.length_singleton]
        omega
      have T69 := T78.trans (Tups.same s9)
      have T59 := (Tups.same s6).trans T69
      -- value[at + 1:]
      refine ⟨_, rfl, _, rfl, _, _, rfl, rfl, _, rfl, ?_⟩
      dsimp only [tNoPart]
      refine sl_read (T59.seq ha5) (dps_tups T59 _ dx5) fun r10 z10 H10 s10 hr10 dr10 => ?_
      refine cat_read (Same.seqT s10 hr9) hr10 (dps_tups (Tups.same s10) _ dr9) dr10 ?_ fun r11 z11 H11 s11 hr11 dr11 => ?_
      · have l9 := dps_len dr9
        have l10 := dps_len dr10
        have l3' := (cutP_sub ps none (some (r : Int))).length_le
        have l10' := (cutP_sub ps (some ((r : Int) + 1)) none).length_le
        rw [List.length_append, List.length_singleton] at l9
        rw [sizeLine_eq]
        show z9.length + z10.length ≤ _
        have l10'' : z10.length ≤ ps.length := by
          rw [l10]
          exact l10'
        omega
      have T511 := T59.trans ((Tups.same s10).trans (Tups.same s11))
      have ha11 := T511.seq ha5
      have dx11 := dps_tups T511 _ dx5
      -- value, value[at], (value,)
      have hrx : r < xs.length := hr3
      refine ⟨_, rfl, _, rfl, _, rfl, a, xs, (r : Int), xs[r], rfl, rfl, ha11, atI_nat (List.getElem?_eq_getElem hrx), _, rfl, (by show 1 ≤ sizeLine; decide), fun t12 h12 => ⟨(by show 6 ≤ sizeLine; decide), fun D hD => ?_⟩⟩
      have s12 := same_upd (o := .tup [.ref a]) h12
      have bt11 : But d H3 H11 := (But.same s36).trans (bt7.trans ((But.same s8).trans ((But.same s9).trans ((But.same s10).trans (But.same s11)))))
      have di11 : Dice H11 d := ((((di7.same s8).same s9).same s10).same s11)
      have di12 := di11.same s12
      have nDd : D ≠ d := (di12.ne hD).symm
      have sD := same_upd (o := .lst [.ref r1, .ref r2, .ref r11, .ref a, xs[r], .ref t12]) hD
      have s12D := s12.trans sD
      have e12 := sD _ _ (upd_same (H := H11) (a := t12) (o := .tup [.ref a]))
      refine ⟨_, rfl, _, rfl, d, D, _, rfl, di12.same sD, nDd, upd_same, by show 0 < 6; decide, by show 6 ≤ 100; decide, fun i x H13 hx bt13 di13 => ?_⟩
      have T13 := But.tups bt13 (di12.same sD)
      have bA : But d H H13 := (But.same sm).trans (bt3.trans (bt11.trans ((But.same s12D).trans bt13)))
      have TE := (Tups.same s12D).trans T13
      have T5E := T511.trans TE
      have T4E := (Tups.same s5).trans T5E
      have subok : ∀ (lo hi : Option Int), ∀ z ∈ cutP ps lo hi, good z ∧ nest z ≤ 3 := fun lo hi z hz => mem z ((cutP_sub ps lo hi).subset hz)
      match i, hx with
      | 0, hx =>
        cases hx
        refine q _ H13 (.tup (ps ++ [PV.non])) bA di13 (dp_mk (T4E.seq hr1) (dps_tups T4E _ dr1)) ((okV_tup (n := 3) (z := 100) (fun z hz => ?_) ?_).mono (by decide) (by decide))
        · rcases List.mem_append.mp hz with hz | hz
          · exact mem z hz
          · rw [List.mem_singleton.mp hz]
            simp only [good, nest]
            exact ⟨trivial, by decide⟩
        · rw [szs_app]
          simp only [szs, sz]
          omega
      | 1, hx =>
        cases hx
        refine q _ H13 (.tup (cutP ps none (some (-1)))) bA di13 (dp_mk (T5E.seq hr2) (dps_tups T5E _ dr2)) ((okV_tup (n := 3) (z := 100) (subok _ _) ?_).mono (by decide) (by decide))
        have := szs_sub (cutP_sub ps none (some (-1)))
        omega
      | 2, hx =>
        cases hx
        refine q _ H13 (.tup (cutP ps none (some (r : Int)) ++ [p7] ++ cutP ps (some ((r : Int) + 1)) none)) bA di13 (dp_mk (TE.seq hr11) (dps_tups TE _ dr11)) ((okV_tup (n := 3) (z := 100) (fun z hz => ?_) ?_).mono (by decide) (by decide))
        · rcases List.mem_append.mp hz with hz | hz
          · rcases List.mem_append.mp hz with hz | hz
            · exact subok _ _ z hz
            · rw [List.mem_singleton.mp hz]
              exact ⟨g7, by omega⟩
          · exact subok _ _ z hz
        · have hl := cut_two ps r
          rw [szs_app, szs_app]
          simp only [szs]
          have z7' : sz p7 ≤ 8 := z7
          omega
      | 3, hx =>
        cases hx
        exact q _ H13 (.tup ps) bA di13 (dp_tups TE _ (dp_mk ha11 dx11)) (ov.mono (by decide) (by decide))
      | 4, hx =>
        cases hx
        obtain ⟨p4, hp4, dp4⟩ := dps_get dx11 (List.getElem?_eq_getElem hrx)
        have m4 := List.mem_of_getElem? hp4
        have := szs_mem m4
        exact q _ H13 p4 bA di13 (dp_tups TE _ dp4) ⟨(mem p4 m4).1, Nat.le_trans (mem p4 m4).2 (by decide), by omega⟩
      | 5, hx =>
        cases hx
        refine q _ H13 (.tup [.tup ps]) bA di13 (dp_tups T13 _ (dp_mk (SqT.of e12) (dps_one (dp_tups (Tups.same s12D) _ (dp_mk ha11 dx11))))) (okV_tup (n := 4) (fun z hz => ?_) ?_)
        · rw [List.mem_singleton.mp hz]
          exact ⟨ov.1, ov.2.1⟩
        · have := ov.2.2
          simp only [szs]
          omega
      | i + 6, hx => simp at hx
  · by_cases ht : ∃ ps, p = .tup ps
    · obtain ⟨ps, rfl⟩ := ht
      refine ⟨_, rfl, .tup ps, true, dv, k_tt ps, true, rfl, iteF ?_⟩
      refine ⟨_, rfl, (by show 0 ≤ sizeLine; decide), fun t ht => ?_⟩
      have sT := same_upd (o := .tup []) ht
      refine ⟨toD (.tup ps), toD (.tup []), dp_tups (Tups.same sT) _ dv, dp_mk (SqT.of upd_same) (by simp only [toDs]; exact .nil), shaped_toD ov.1 (Nat.le_trans ov.2.1 (by decide)), shaped_toD (by simp only [good, goods]) (by simp only [nest, nests]; decide), _, rfl, ?_⟩
      rw [eqv_tnil]
      refine kq _ _ ⟨sT, fun e => ?_⟩
      cases ps with
      | nil => cases e
      | cons x ps => exact ⟨x, ps, rfl⟩
    · have hk : kin p "tuple" = false := by
        cases he : p with
        | non => rfl
        | int i => exact k_it i
        | str x => exact k_st x
        | tup ps => exact absurd ⟨ps, he⟩ ht
      exact ⟨_, rfl, p, false, dv, hk, false, rfl, iteT (kq true H ⟨Same.refl H, fun z => by cases z⟩)⟩
end
end K1

namespace K1
open PySem PySem.Spec PyProof.Rows L2
section
variable {P : Program} {w : World} {K : PySem.W.Frag} {mg : Str → Option Value} {base : Heap} {f : Addr} {fd : FuncData} {H H' : Hp}
theorem mk_key {t : Addr} {c : Int} {v : V} {p : PV} (h : SqT K H t [.int c, v]) (hc : kcode p = c) (b : Dp K H v (kbody p)) : Dp K H (.ref t) (rkD p) := by
  rw [rkD_eq, hc]
  exact .tup h (.cons (.int _) (.cons b .nil))
/-! ### _law_va_rank -/
def spRkPrev (K : PySem.W.Frag) : Nat → Sp
  | 0 => fun _ _ _ _ => False
  | n + 1 => spRank K n
theorem scVaRank : FnScope ["_law_value", "_law_one"] ["_law_value"] (defScope sVaRank) := ⟨rfl, rfl, rfl, by decide +kernel, rfl, by decide +kernel, by decide +kernel⟩
theorem ok_vr_one (n : Nat) (F : Fun K "_law_va_rank" "_law_va_rank" sVaRank f fd) (T : Txt mg) (C3 : Cal P w K mg base n "_law_va_rank" (spRkPrev K n)) : FnOk P w K mg base CX0 (n + 1) f fd ["_law_value"] (spRank K n) := by
  obtain ⟨f3, fd3, ps3, G3, g3, k3, b3⟩ := C3
  refine F.ok scVaRank (fun vs H Q E h => ?_) (fun cdv A outer s H vs Q E hr h => ?_)
  · obtain ⟨v, p, rfl, _⟩ := h
    rfl
  obtain ⟨v, p, rfl, hd, hg, hn, hz, q⟩ := h
  refine ⟨_, pss_cons (ps_if (pt_cmp (pc_isN (pv 0)) rfl) (pss_one (ps_ret (pe_tup (pa_cons pe_int (pa_cons pe_int pa_nil))))) pss_nil)
    (pss_cons (ps_if (pt_val (pe_isP (.inr (.inr (.inl rfl))) (by rfl) T.isi (by rfl) T.ttup (by decide +kernel) (pv 0)))
      (pss_one (ps_ret (pe_tup (pa_cons pe_int (pa_cons (pe_callTy call_tuple_of (by rfl) T.ttup (by decide +kernel) (pa_cons
        (pe_lc (own := [("_law_one", 1)]) (g := gName 1) (tt := tYes) (by rfl) scVaRank.nd (pi_tup (pv 0)) (blkOk_by (own := [("_law_one", 1)]) (N := ["_law_value", "_law_one"]) (sc := defScope sVaRank) (by decide +kernel))
          (fun _ _ _ _ _ => pg_name (i := 1) scVaRank.nd rfl (Or.inl rfl)) (fun _ _ _ _ _ => pts_nil) (fun _ _ _ _ _ => pe_call G3 hr (by rfl) g3 k3 b3 .nil pass0 (pa_cons (pv 1) pa_nil))) pa_nil)) pa_nil))))) pss_nil)
    (pss_one (ps_ret (pe_ifExp (pt_val (pe_isP (.inr (.inl rfl)) (by rfl) T.isi (by rfl) T.tstr (by decide +kernel) (pv 0))) (pe_tup (pa_cons pe_int (pa_cons (pv 0) pa_nil))) (pe_tup (pa_cons pe_int (pa_cons (pv 0) pa_nil))))))), ?_⟩
  cases p with
  | non =>
    obtain rfl := dp_non' hd
    refine ⟨_, rfl, true, congrArg V.bl (decide_eq_true rfl), iteT ⟨(by show 2 ≤ sizeLine; decide), fun t ht => ?_⟩⟩
    exact q (.ref t) _ (same_upd ht) (mk_key (p := .non) (SqT.of upd_same) rfl (.int _))
  | int i =>
    obtain rfl := dp_int' hd
    refine ⟨_, rfl, false, congrArg V.bl (decide_eq_false (by intro z; cases z)), iteF ⟨_, rfl, .int i, false, dp_int i, k_it i, false, rfl, iteF ⟨_, rfl, .int i, false, dp_int i, k_is i, false, rfl, iteF ⟨_, rfl, (by show 2 ≤ sizeLine; decide), fun t ht => ?_⟩⟩⟩⟩
    exact q (.ref t) _ (same_upd ht) (mk_key (p := .int i) (SqT.of upd_same) rfl (.int _))
  | str x =>
    obtain rfl := dp_str' hd
    refine ⟨_, rfl, false, congrArg V.bl (decide_eq_false (by intro z; cases z)), iteF ⟨_, rfl, .str x, false, dp_str x, k_st x, false, rfl, iteF ⟨_, rfl, .str x, true, dp_str x, k_ss x, true, rfl, iteT ⟨_, rfl, (by show 2 ≤ sizeLine; decide), fun t ht => ?_⟩⟩⟩⟩
    exact q (.ref t) _ (same_upd ht) (mk_key (p := .str x) (SqT.of upd_same) rfl (.str _))
  | tup ps =>
    obtain ⟨a, xs, rfl, ha, dx⟩ := dp_tup hd
    obtain ⟨n', rfl⟩ : ∃ n', n = n' + 1 := ⟨n - 1, by simp only [nest] at hn; omega⟩
    refine ⟨_, rfl, false, congrArg V.bl (decide_eq_false (by intro z; cases z)), iteF ⟨_, rfl, .tup ps, true, hd, k_tt ps, true, rfl, iteT ⟨_, rfl, a, rfl, ⟨_, ha⟩, fun D hD => ?_⟩⟩⟩
    have lx := dps_len dx
    have ll := szs_len ps
    simp only [nest] at hn
    simp only [sz] at hz
    simp only [good] at hg
    refine lc_tup (K := K) (a := a) (xs := xs) (fun i H3 => ∃ acc, Same H H3 ∧ H3 D = some (.lst acc) ∧ DpAll K H3 acc (rkDs (ps.take i)))
      ⟨[], same_upd hD, upd_same, by rw [List.take_zero]; simp only [rkDs]; exact .nil⟩ (fun i H3 _ hP => ?_) (fun i x H3 hx hP => ?_) (fun H3 hP => ?_)
    · obtain ⟨acc, s3, _, _⟩ := hP
      exact Same.seqT s3 ha
    · obtain ⟨acc, s3, e3, d3⟩ := hP
      obtain ⟨x', hx', dx'⟩ := dps_get dx hx
      have li : i < ps.length := (List.getElem?_eq_some_iff.mp hx').1
      have lacc := rks_len d3
      rw [List.length_take] at lacc
      have mx := List.mem_of_getElem? hx'
      have nm := nests_mem mx
      have zm := szs_mem mx
      refine ⟨rfl, yes_lc ?_⟩
      refine ⟨_, rfl, x, x', rfl, dp_tups (Tups.same s3) _ dx', goods_mem.mp hg _ mx, by omega, by omega, fun y H4 s4 dy => ?_⟩
      have e4 := s4 _ _ e3
      have T5 : Tups H4 (upd H4 D (.lst (acc ++ [y]))) := tups_upd e4
      refine ⟨acc, e4, by rw [sizeLine_eq]; omega, acc ++ [y], same_put (s3.trans s4) hD, upd_same, ?_⟩
      have e5 : ps.take (i + 1) = ps.take i ++ [x'] := by
        rw [List.take_add_one, hx']
        rfl
      rw [e5]
      exact rks_snoc (rks_tups ((Tups.same s4).trans T5) _ d3) (rk_tups T5 _ dy)
    · obtain ⟨acc, s3, e3, d3⟩ := hP
      rw [List.take_of_length_le (by omega)] at d3
      refine ⟨D, acc, rfl, .inl ⟨SqL.of e3, fun l hl => ⟨(by show 2 ≤ sizeLine; decide), fun t ht => ?_⟩⟩⟩
      have s4 := same_upd (o := .tup acc) hl
      have s5 := same_upd (o := .tup [.int 3, .ref l]) ht
      have e4 := s5 _ _ (upd_same (H := H3) (a := l) (o := .tup acc))
      exact q (.ref t) _ (s3.trans (s4.trans s5)) (mk_key (p := .tup ps) (SqT.of upd_same) rfl (.tup (SqT.of e4) (rks_tups (Tups.same (s4.trans s5)) _ d3)))
theorem ok_vr (F : Fun K "_law_va_rank" "_law_va_rank" sVaRank f fd) (T : Txt mg) (hm : mg "_law_va_rank" = some (.ref f)) (hk : PySem.W.keepIn K (.ref f) = true) (hb : Binds K fd ["_law_value"] []) :
    ∀ n : Nat, FnOk P w K mg base CX0 (n + 1) f fd ["_law_value"] (spRank K n)
  | 0 => ok_vr_one 0 F T ⟨f, fd, ["_law_value"], ⟨fun _ _ _ _ h => h.elim, fun _ _ _ _ _ _ _ _ _ _ _ _ _ h => h.elim⟩, hm, hk, hb⟩
  | n + 1 => ok_vr_one (n + 1) F T ⟨f, fd, _, ok_vr F T hm hk hb n, hm, hk, hb⟩

/-! ### _law_ordered -/
def spLOrd (K : PySem.W.Frag) : Sp := fun vs H Q _ => ∃ (l : Addr) (xs : List V) (ps : List PV), vs = [.ref l] ∧ SqL K H l xs ∧ DpAll K H xs (toDs ps) ∧ (∀ p ∈ ps, okV 5 100 p) ∧ ps.length ≤ 60 ∧
  ∀ (x : V) (H' : Hp), Same H H' → Dp K H' x (toD (.tup (canon ps))) → Q x H'
theorem scLOrd : FnScope ["_law_values", "_law_found", "_law_value"] ["_law_values"] (defScope sLawOrdered) := ⟨rfl, rfl, rfl, by decide +kernel, rfl, by decide +kernel, by decide +kernel⟩
theorem ok_lord (F : Fun K "_law_ordered" "_law_ordered" sLawOrdered f fd) (T : Txt mg) (C : Cal P w K mg base 7 "_law_va_rank" (spRank K 6)) : FnOk P w K mg base CX0 10 f fd ["_law_values"] (spLOrd K) := by
  obtain ⟨f1, fd1, ps1, G1, g1, k1, b1⟩ := C
  refine F.ok scLOrd (fun vs H Q E h => ?_) (fun cdv A outer s H vs Q E hr h => ?_)
  · obtain ⟨l, xs, ps, rfl, _⟩ := h
    rfl
  obtain ⟨l, xs, ps, rfl, hl, dx, ok, h60, q⟩ := h
  have hu := hr.units
  refine ⟨_, pss_cons (ps_set (i := 1) scLOrd.nd rfl (.inl rfl) (pe_lst pa_nil))
    (pss_cons (ps_for PassesOwn.never (by rfl) (pi_list (pe_callBK (cr_sortK G1 hr b1) (by rfl) T.sorted (by decide +kernel) (pa_cons (pv 0) pa_nil) (pk_cons (pe_glob (v := .ref f1) (by rfl) g1 rfl) pk_nil))) (pg_name (i := 2) scLOrd.nd rfl (.inl rfl))
      (pss_one (ps_if (PW.pt (pw_or (pt_cmpR (op_eqD hu) (pv 1) (pe_lst pa_nil) (nomark _)) (pw_or1 (pt_cmpR (op_neD hu) (pe_call G1 (hr.mono (by decide)) (by rfl) g1 k1 b1 .nil pass0 (pa_cons (pe_ix ix_list (pv 1) (pe_un un_neg pe_int) (fun _ _ => rfl)) pa_nil)) (pe_call G1 (hr.mono (by decide)) (by rfl) g1 k1 b1 .nil pass0 (pa_cons (pv 2) pa_nil)) (nomark _)))))
        (pss_one (ps_expr (pe_bm PySem.F.plainAttrs_list PySem.F.slot_list_append PySem.F.type_list_append mt_append (pv 1) (pa_cons (pv 2) pa_nil)))) pss_nil)))
    (pss_one (ps_ret (pe_callTy call_tuple_of (by rfl) T.ttup (by decide +kernel) (pa_cons (pv 1) pa_nil))))), ?_⟩
  refine ⟨Nat.zero_le _, fun D hD => ?_⟩
  have s0 := same_upd (o := .lst []) hD
  refine ⟨_, rfl, l, xs, ps, rfl, rfl, Same.seq s0 hl, dps_tups (Tups.same s0) _ dx, fun p hp => ⟨(ok p hp).1, Nat.le_trans (ok p hp).2.1 (by decide), Nat.le_trans (ok p hp).2.2 (by decide)⟩, by omega, by decide, fun out os S H1 s1 hS eS dS up pm => ?_⟩
  have eD : H1 D = some (.lst []) := s1 _ _ upd_same
  have nDS : D ≠ S := ne_of_none upd_same hS
  have los := dps_len dS
  have lpm := pm.length_eq
  refine ⟨S, rfl, ⟨_, SqL.of eS⟩, ?_⟩
  refine for_list (K := K) (a := S) (xs := out) (fun i σ H3 => ∃ (acc : List V) (y : Option V), σ = [some (.ref l), some (.ref D), y] ∧ Same H H3 ∧ H3 D = some (.lst acc) ∧ H3 S = some (.lst out) ∧ DpAll K H3 out (toDs os) ∧ DpAll K H3 acc (toDs (once (os.take i))))
    ⟨[], _, rfl, s0.trans s1, eD, eS, dS, by rw [List.take_zero]; show DpAll K H1 [] (toDs []); simp only [toDs]; exact .nil⟩ (fun i σ H3 _ hP => ?_) (fun i x σ H3 hx hP => ?_) (fun σ H3 hP => ?_)
  · obtain ⟨acc, y, rfl, s3, e3, eS3, dS3, d3⟩ := hP
    exact SqL.of eS3
  · obtain ⟨acc, y, rfl, s3, e3, eS3, dS3, d3⟩ := hP
    obtain ⟨p, hp, dp⟩ := dps_get dS3 hx
    have tk : os.take (i + 1) = os.take i ++ [p] := by
      rw [List.take_add_one, hp]
      rfl
    have mp := pm.subset (List.mem_of_getElem? hp)
    have okp := ok p mp
    have onm : ∀ z ∈ once (os.take i), okV 5 100 z := fun z hz => ok z (pm.subset (List.take_subset _ _ ((once_mem _).mp hz)))
    have lon := once_len (os.take i)
    rw [List.length_take] at lon
    have lacc := dps_len d3
    refine ⟨_, rfl, Nat.zero_le _, fun e he => ?_⟩
    have sE := same_upd (o := .lst []) he
    have dE := dps_tups (Tups.same sE) _ d3
    refine ⟨.list (toDs (once (os.take i))), .list [], dp_lst (Same.seq sE (SqL.of e3)) dE, .lst (SqL.of upd_same) .nil, shaped_lst (goods_mem.mpr fun z hz => (onm z hz).1) (nests_le fun z hz => Nat.le_trans (onm z hz).2.1 (by decide)), shaped_nil, _, rfl, ?_⟩
    rw [eqv_nil]
    -- put at the end
    have put : ∀ H4, Same (upd H3 e (.lst [])) H4 → once (os.take (i + 1)) = once (os.take i) ++ [p] →
        ∃ (l2 : Addr) (xs2 : List V) (y2 : V), V.ref D = V.ref l2 ∧ [x] = [y2] ∧ H4 l2 = some (.lst xs2) ∧ xs2.length < sizeLine ∧ ∃ (acc : List V) (y : Option V), [some (V.ref l), some (V.ref D), some x] = [some (V.ref l), some (V.ref D), y] ∧ Same H (upd H4 l2 (.lst (xs2 ++ [y2]))) ∧ (upd H4 l2 (.lst (xs2 ++ [y2]))) D = some (.lst acc) ∧ (upd H4 l2 (.lst (xs2 ++ [y2]))) S = some (.lst out) ∧ DpAll K (upd H4 l2 (.lst (xs2 ++ [y2]))) out (toDs os) ∧ DpAll K (upd H4 l2 (.lst (xs2 ++ [y2]))) acc (toDs (once (os.take (i + 1)))) := by
      intro H4 s4 eo
      have s34 := sE.trans s4
      have e4 := s34 _ _ e3
      have T5 : Tups H4 (upd H4 D (.lst (acc ++ [x]))) := tups_upd e4
      have T35 := (Tups.same s34).trans T5
      refine ⟨D, acc, x, rfl, rfl, e4, by rw [sizeLine_eq]; omega, acc ++ [x], _, rfl, same_put (s3.trans s34) hD, upd_same, by rw [upd_ne nDS.symm]; exact s34 _ _ eS3, dps_tups T35 _ dS3, ?_⟩
      rw [eo]
      exact dps_app (dps_tups T35 _ d3) (dps_one (dp_tups T35 _ dp))
    cases hl : (once (os.take i)).getLast? with
    | none =>
      have en : once (os.take i) = [] := List.getLast?_eq_none_iff.mp hl
      rw [en]
      refine iteT (iteT ?_)
      refine ⟨_, rfl, .inl ⟨rfl, _, SqL.of (sE _ _ e3)⟩, _, rfl, ?_⟩
      exact put _ (Same.refl _) (by rw [tk, once_snoc, push1_none hl, en])
    | some u =>
      obtain ⟨fr, ef⟩ : ∃ fr, once (os.take i) = fr ++ [u] := List.getLast?_eq_some_iff.mp hl
      rw [ef]
      have nE : (fr ++ [u]).isEmpty = false := by cases fr <;> rfl
      rw [nE]
      refine iteF ?_
      have dE2 := dE
      rw [ef] at dE2
      obtain ⟨ys, yl, rfl, dys, dyl⟩ := dps_last dE2
      have oku := onm u (by rw [ef]; simp)
      have eD4 := sE _ _ e3
      refine ⟨_, rfl, 1, rfl, D, _, -1, yl, rfl, rfl, SqL.of eD4, atI_last ys yl, yl, u, rfl, dyl, oku.1, Nat.le_trans oku.2.1 (by decide), Nat.le_trans oku.2.2 (by decide), fun x1 H4 s4 d4 => ?_⟩
      have dp4 := dp_tups (Tups.same (sE.trans s4)) _ dp
      refine ⟨_, rfl, x, p, rfl, dp4, okp.1, Nat.le_trans okp.2.1 (by decide), Nat.le_trans okp.2.2 (by decide), fun x2 H5 s5 d5 => ?_⟩
      refine ⟨rkD u, rkD p, rk_tups (Tups.same s5) _ d4, d5, shaped_rkD oku.1 (Nat.le_trans oku.2.1 (by decide)), shaped_rkD okp.1 (Nat.le_trans okp.2.1 (by decide)), _, rfl, ?_⟩
      rw [eqv_rkD]
      have s45 := s4.trans s5
      have s35 := sE.trans s45
      cases c : cmp u p with
      | eq =>
        refine iteF ?_
        refine ⟨_, _, rfl, s3.trans s35, s35 _ _ e3, s35 _ _ eS3, dps_tups (Tups.same s35) _ dS3, ?_⟩
        have eo : once (os.take (i + 1)) = once (os.take i) := by rw [tk, once_snoc, push1_some hl, c]; rfl
        rw [eo]
        exact dps_tups (Tups.same s35) _ d3
      | lt =>
        refine iteT ⟨_, rfl, .inl ⟨rfl, _, SqL.of (s35 _ _ e3)⟩, _, rfl, ?_⟩
        exact put _ s45 (by rw [tk, once_snoc, push1_some hl, c]; rfl)
      | gt =>
        refine iteT ⟨_, rfl, .inl ⟨rfl, _, SqL.of (s35 _ _ e3)⟩, _, rfl, ?_⟩
        exact put _ s45 (by rw [tk, once_snoc, push1_some hl, c]; rfl)
  · obtain ⟨acc, y, rfl, s3, e3, eS3, dS3, d3⟩ := hP
    rw [List.take_of_length_le (by omega), once_canon up (fun z => ⟨fun h => pm.subset h, fun h => pm.symm.subset h⟩)] at d3
    refine ⟨_, rfl, D, acc, rfl, .inl ⟨SqL.of e3, fun t ht => ?_⟩⟩
    have sT := same_upd (o := .tup acc) ht
    exact q (.ref t) _ (s3.trans sT) (dp_mk (SqT.of upd_same) (dps_tups (Tups.same sT) _ d3))
end
end K1

namespace K1
open PySem PySem.Spec PyProof.Rows L2
/-! ### defs that are called where no repr is under way -/
structure FnG (P : Program) (w : World) (K : PySem.W.Frag) (mg : Str → Option Value) (base : Heap) (k : Nat) (f : Addr) (fd : FuncData) (ps : List Str) (sp : Sp) : Prop where
  arity : ∀ vs H Q E, sp vs H Q E → vs.length = ps.length
  goes : ∀ (A : Around) (outer : List Env) (s : Shared) (H : Hp) (args : Args) (us : List Value) (vs : List V) (Q : VK) (E : XK), A.guards = some [] → Room k A → Env0 P w K mg base A outer s H → BindsTo s fd args (ps.zip us) → Vals vs us → sp vs H Q E →
    codeAny (model P w) A (.call (.ref f) args) (CR CX0 outer P w H s Q E) s
section
variable {P : Program} {w : World} {K : PySem.W.Frag} {mg : Str → Option Value} {base : Heap}
theorem okG {x qual : Str} {st : Stmt} {f : Addr} {fd : FuncData} {N ps : List Str} {k : Nat} {sp : Sp} (F : Fun K x qual st f fd) (S : FnScope N ps (defScope st)) (ar : ∀ vs H Q E, sp vs H Q E → vs.length = ps.length)
    (walk : ∀ (cdv : Value) (A : Around) (outer : List Env) (s : Shared) (H : Hp) (vs : List V) (Q : VK) (E : XK), A.guards = some [] → Room k (A.deeper (envOfC qual (defScope st) s.heap.objs.size f cdv)) → sp vs H Q E →
      ∃ t, PSs (cxOf CX0 P w K mg base N qual (defScope st) f cdv A outer s H E).nox (defBody st) t ∧ t { nx := fun _ H' => Q .non H', rt := Q } (start N vs) H) : FnG P w K mg base (k + 1) f fd ps sp := by
  obtain ⟨oc, od, kV, doc, pm, an, cdv, ct, osl, hfd, look, code⟩ := F.ex
  subst hfd
  constructor
  · exact ar
  · intro A outer s H args us vs Q E hguard room env binds rel hsp
    have arity := ar _ _ _ _ hsp
    have same : ∀ b o, base.get? b = some o → s.heap.get? b = some o := fun b o e => (env.bs b o e).1
    have inK : K.In s.heap := env.mod.kin.keeps same
    have noLim : s.heap.NoLimit := env.mod.nolimit.keeps same
    have kinds : ∀ y ∈ ps.zip us, (defScope st).names.lookup y.1 = some .local ∨ ((defScope st).names.lookup y.1 = some .cell ∧ ((cellsFrom (s.heap.objs.size + 1) (defScope st).names []).lookup y.1).isSome = true) := by
      rintro ⟨n, v⟩ hy
      exact (S.par n (List.of_mem_zip hy).1).imp_right fun q => And.intro q (PySem.W.cellsFrom_some _ _ _ (.inl q))
    refine codeAny_call_function room.depth (inK _ _ look) rfl S.co S.gen rfl (PySem.W.codeRec_of inK code) (binds _ _ _ _ (wpAny_newFunctionEnv_cells S.kind kinds fun e1 he s1 made => ?_))
    subst he
    obtain ⟨t, run, start0⟩ := walk cdv A outer s H vs Q E hguard (room.deeper _) hsp
    have inv : Inv (cxOf CX0 P w K mg base N qual (defScope st) f cdv A outer s H E) [] (start N vs) H s1 := inv_start S room.hd env arity rel made
    refine And.intro (noLim.keeps made.toInCall.keep) (codeAny_func (wpAny_mono (run.nox.run [] s1 (start N vs) H _ inv start0) (fun fl s' out => ?_) fun _ _ z => z))
    cases fl with
    | ret u =>
      obtain ⟨v, σ', H', J, rv, q⟩ := out
      exact ⟨v, H', J.os, J.bare, J.base, J.hok, rv, q⟩
    | next =>
      obtain ⟨σ', H', J, q⟩ := out
      exact ⟨V.non, H', J.os, J.bare, J.base, J.hok, rfl, q⟩
    | brk => exact out.elim fun _ z => z.elim fun _ y => y.2.elim
    | cont => exact out.elim fun _ z => z.elim fun _ y => y.2.elim
theorem FnOk.toG {k : Nat} {f : Addr} {fd : FuncData} {ps : List Str} {sp : Sp} (F : FnOk P w K mg base CX0 k f fd ps sp) : FnG P w K mg base k f fd ps sp := ⟨F.len, fun A outer s H args us vs Q E _ => F.run A outer s H args us vs Q E⟩
end
section
variable {X : Cx} {k : Nat} {f : Addr} {fd : FuncData} {ps : List Str} {ds : List Value} {dvs : List V} {sp : Sp} {E : XK} {x : Str} {e : Expr} {es : List Expr} {t : TA} {p pos : Pos}
theorem pe_callG (F : FnG X.prog X.w X.K X.mg X.base k f fd ps sp) (hgd : X.A.guards = some []) (hr : Room k X.A) (hg : Gl X x) (hm : X.mg x = some (.ref f)) (hk : PySem.W.keepIn X.K (.ref f) = true) (hb : Binds X.K fd ps ds) (hd : Vals dvs ds) (hx : Passes CX0 X E)
    (ha : PA X (e :: es) t) (hdb : (x == ("__debug__" : Str)) = false := by decide) (he : starEach (e :: es) X.env = (false, eval e X.env) :: starEach es X.env := by rfl) (hpl : (backTo pos (starEach es X.env)).any (·.1) = false := by rfl) :
    PE X (.Call (.Name x p) (e :: es) [] pos) (tCall sp dvs E t) := by
  constructor
  intro pins s σ H Q I h
  refine wpAny_Call_Name_kw (ld_glob I hg hm (PySem.W.callWith_K (h₀ := X.base) I.ok.mod.kin hk (thn (ha.run pos pins s σ H _ I h) fun us s1 got => ?_) he hpl) hdb)
  obtain ⟨vs, H1, I1, r, q⟩ := got
  have rel : Vals (vs ++ dvs) (us ++ ds) := r.append hd
  have arity : (us ++ ds).length = ps.length := rel.length.symm.trans (F.arity _ _ _ _ q)
  refine And.intro I1.kIn (wpAny_call (codeAny_mono (F.goes X.A X.stack s1 H1 ⟨us, []⟩ (us ++ ds) (vs ++ dvs) Q E hgd hr I1.env0 (hb s1 us I1.kIn arity) rel q) fun res s' fin => ?_))
  rcases res with err | (_ | _ | _ | u)
  all_goals first | exact hx pins σ H1 s1 err s' I1 fin | exact I1.after fin | exact False.elim fin
end
/-- the law's promise, at the heap behind the top -/
theorem lawG {P : Program} {w : World} {K : PySem.W.Frag} {mg mb : Str → Option Value} {k : Nat} {fa a : Addr} {fd : FuncData} {x : Str} {sp : Sp} {s₁ : Shared} {vs : List Value} {ns : List Int}
    (inK : K.In s₁.heap) (top : s₁.heap.Ns mainGlobals mg) (blt : s₁.heap.Ns builtinsNs mb) (boot : ∀ x : Str, x ≠ "__name__" → mb x = bootBuiltins x) (noLim : s₁.heap.NoLimit) (noGen : s₁.gens = #[])
    (script : s₁.heap.get? a = some { cls := .type "list", data := .seq vs.toArray }) (scr : IntsAre vs ns) (short : ns.length ≤ sizeLine) (room : Room k callerA)
    (F : ∀ base : Heap, K.In base → base.Ns mainGlobals mg → FnG P w K mg base k fa fd [x] sp) (bind : ∀ (s : Shared) (u : Value), BindsTo s fd ⟨[u], []⟩ [(x, u)])
    (keep : ∀ H : Hp, Only H → SqL K H a (ns.map V.int) → sp [.ref a] H (fun v _ => v = .bl true) E0) :
    codeAny (model P w) callerA (.call (.ref fa) ⟨[.ref a], []⟩) (fun r s' => r = .ok (.ret (.bool true)) ∧ OldK s₁.heap s'.heap ∧ s'.os = s₁.os ∧ AllBare s'.gens) s₁ := by
  have rel := vals_ints scr
  -- nothing is tracked but the script, and it only where the written part does not hold it
  obtain ⟨H, told, sq⟩ : ∃ H : Hp, (∀ b, H b = none ∨ (b = a ∧ K.lookup a = none ∧ H b = some (.frz { cls := .type "list", data := .seq vs.toArray } (.lst (ns.map V.int))))) ∧ SqL K H a (ns.map V.int) := by
    cases held : K.lookup a with
    | none =>
      refine ⟨fun b => if b = a then some (.frz { cls := .type "list", data := .seq vs.toArray } (.lst (ns.map V.int))) else none, fun b => ?_, .inl (.inr ⟨_, if_pos rfl⟩)⟩
      by_cases hb : b = a
      · exact .inr ⟨hb, rfl, if_pos hb⟩
      · exact .inl (if_neg hb)
    | some o =>
      have e := inK a o held
      rw [script] at e
      refine ⟨fun _ => none, fun _ => .inl rfl, .inr ⟨o, vs.toArray, 0, held, ?_⟩⟩
      rw [← Option.some.inj e]
      exact ⟨rfl, rfl, rfl, by rw [List.size_toArray, scr.length]; exact short, by simpa using rel⟩
  have objs : HOk P w H s₁.heap := fun b u hu => by
    rcases told b with z | ⟨hb, _, z⟩
    · rw [hu] at z
      cases z
    · rw [hu] at z
      cases z
      rw [hb]
      exact ⟨script, by rw [List.length_map]; exact short, vs, _, rel, script⟩
  have only : Only H := fun b => (told b).imp_right fun z => ⟨_, _, z.2.2⟩
  have seen : ∀ {b : Addr} {o : Obj}, s₁.heap.get? b = some o → H b = none → (hidT s₁.heap H).get? b = some o := fun e n => hidT_get e n
  have dicts : ∀ {b : Addr} {o : Obj} {es : Array DictEntry} {ep : Nat}, s₁.heap.get? b = some o → o.data = .dict es ep → H b = none := fun {b o es ep} e d => by
    rcases told b with z | ⟨hb, _, _⟩
    · exact z
    · rw [hb, script] at e
      cases e
      cases d
  have spaces : ∀ {b : Addr} {m : Str → Option Value}, s₁.heap.Ns b m → (hidT s₁.heap H).Ns b m := fun {b m} n => by
    obtain ⟨o, es, ep, e, d, r⟩ := n
    exact ⟨o, es, ep, seen e (dicts e d), d, r⟩
  have baseK : K.In (hidT s₁.heap H) := fun b o e => seen (inK b o e) (by
    rcases told b with z | ⟨hb, hk, _⟩
    · exact z
    · rw [hb, hk] at e
      cases e)
  obtain ⟨mc, c1, c2⟩ := noLim
  have mod : Mod K mg (hidT s₁.heap H) := ⟨baseK, spaces top, ⟨mb, spaces blt, boot⟩, ⟨mc, spaces c1, c2⟩⟩
  have env : Env0 P w K mg (hidT s₁.heap H) callerA [] s₁ H := ⟨rfl, mod, fun b o e => of_hidT e, Nat.le_of_eq (hidT_size _ _), trivial, fun b hb => (by cases hb), objs, .of_eq noGen⟩
  refine codeAny_mono ((F _ baseK (spaces top)).goes callerA [] s₁ H ⟨[.ref a], []⟩ [.ref a] [.ref a] _ _ rfl room env (bind s₁ (.ref a)) (.cons rfl .nil) (keep H only sq)) fun r s' fin => ?_
  rcases r with err | (_ | _ | _ | u)
  · exact False.elim fin
  · exact False.elim fin
  · exact False.elim fin
  · exact False.elim fin
  · obtain ⟨v, H', os, bare, un, objs', rv, q⟩ := fin
    have q : v = .bl true := q
    subst q
    have rv : u = Value.bool true := rv
    subst rv
    refine ⟨rfl, OldK.of_keep fun b o e => ?_, os, bare⟩
    rcases told b with z | ⟨_, _, z⟩
    · exact un.keep b o e z (by intro y; cases y) (by simp)
    · have e1 := (objs b _ z).1
      have e2 := (objs' b _ (un.frzs b _ _ z)).1
      rw [e] at e1
      cases e1
      exact e2
end K1

namespace K1
open PySem PySem.Spec PyProof.Rows L2
theorem lc_zipT {K : PySem.W.Frag} {a b : Addr} {xs ys : List V} {g : TG} {tt : TT} {te : TE} {vs : List Nat} {σ : L2.St} {H1 : Hp} {D : Addr} {Qd : Hp → Prop} (Pv : Nat → Hp → Prop) (h0 : Pv 0 (upd H1 D (.lst []))) (hq : ∀ i H, Pv i H → SqT K H a xs ∧ SqT K H b ys)
    (hs : ∀ i x y T H, xs[i]? = some x → ys[i]? = some y → Pv i H → H T = none → g (.ref T) (wipe σ vs) (upd H T (.tup [x, y])) fun σ2 H2 => wipe σ2 vs = wipe σ vs ∧ tt σ2 H2 fun b H3 =>
      if b = true then te σ2 H3 fun y H4 => ∃ acc, H4 D = some (.lst acc) ∧ acc.length < sizeLine ∧ Pv (i + 1) (upd H4 D (.lst (acc ++ [y]))) else Pv (i + 1) H3) (hd : ∀ H, Pv (min xs.length ys.length) H → Qd H) :
    ∃ W : Nat → Nat → Hp → Prop, (∃ m, W 0 m (upd H1 D (.lst []))) ∧ ∀ i m H, W i m H →
      ((RZ.ItzT K a b).stop i H ∧ Qd H) ∨ ((RZ.ItzT K a b).go i H ∧ ∃ Nx : Hp → Prop, (∀ H', Nx H' → ∃ m', m' < m ∧ W (i + 1) m' H') ∧ ∀ y H', (RZ.ItzT K a b).yld i H y H' → g y (wipe σ vs) H' fun σ2 H2 => wipe σ2 vs = wipe σ vs ∧ tt σ2 H2 fun b H3 =>
        if b = true then te σ2 H3 fun y H4 => ∃ acc, H4 D = some (.lst acc) ∧ acc.length < sizeLine ∧ Nx (upd H4 D (.lst (acc ++ [y]))) else Nx H3) := by
  refine ⟨fun i m H => m = min xs.length ys.length - i ∧ i ≤ min xs.length ys.length ∧ Pv i H, ⟨_, rfl, Nat.zero_le _, h0⟩, ?_⟩
  rintro i m H ⟨rfl, hi, p⟩
  obtain ⟨qx, qy⟩ := hq i H p
  by_cases hlt : i < min xs.length ys.length
  · have l1 : i < xs.length := by omega
    have l2 : i < ys.length := by omega
    refine .inr ⟨⟨xs, ys, _, _, qx, qy, List.getElem?_eq_getElem l1, List.getElem?_eq_getElem l2⟩, Pv (i + 1), fun H' p' => ⟨min xs.length ys.length - (i + 1), by omega, rfl, hlt, p'⟩, fun v H' y => ?_⟩
    obtain ⟨T, x', y', rfl, hT, rfl, f1, f2⟩ := y
    exact hs i x' y' T H (f1 xs qx) (f2 ys qy) p hT
  · have e : i = min xs.length ys.length := by omega
    refine .inl ⟨⟨xs, ys, qx, qy, by omega⟩, hd H ?_⟩
    rw [← e]
    exact p
theorem cut_next {C : List PV} {i : Nat} {z : PV} (h : (cutP C (some 1) none)[i]? = some z) : C[i + 1]? = some z := by
  unfold cutP at h
  rw [show (1 : Int) = ((1 : Nat) : Int) by rfl, HT.sIx_nat, HT.sIx_none] at h
  have hi := (List.getElem?_eq_some_iff.mp h).1
  rw [List.length_take, List.length_drop] at hi
  rw [List.getElem?_take_of_lt (by omega), List.getElem?_drop] at h
  rw [← h]
  congr 1
  omega
theorem asc_next {C : List PV} (h : Asc C) {i : Nat} {x y : PV} (hx : C[i]? = some x) (hy : C[i + 1]? = some y) : lt x y = true := by
  obtain ⟨h1, rfl⟩ := List.getElem?_eq_some_iff.mp hx
  obtain ⟨h2, rfl⟩ := List.getElem?_eq_some_iff.mp hy
  exact List.pairwise_iff_getElem.mp h i (i + 1) h1 h2 (Nat.lt_succ_self i)
theorem okV.easy {p : PV} (h : okV 5 100 p) : easy p := ⟨h.1, Nat.le_trans h.2.1 (by decide), Nat.le_trans h.2.2 (by decide)⟩
theorem tup_ok {ps : List PV} (h : ∀ p ∈ ps, okV 5 100 p) (l : ps.length ≤ 60) : okV 6 6002 (.tup ps) :=
  okV_tup (n := 5) (fun p hp => ⟨(h p hp).1, (h p hp).2.1⟩) (by
    have a := szs_le (n := 100) fun p hp => (h p hp).2.2
    have b := Nat.mul_le_mul_right 100 l
    omega)
theorem tup_easy {ps : List PV} (h : ∀ p ∈ ps, okV 5 100 p) (l : ps.length ≤ 60) : easy (.tup ps) := ⟨(tup_ok h l).1, Nat.le_trans (tup_ok h l).2.1 (by decide), Nat.le_trans (tup_ok h l).2.2 (by decide)⟩
theorem tup_shaped {ps : List PV} (h : ∀ p ∈ ps, okV 5 100 p) (l : ps.length ≤ 60) : SeqAt.shaped (toD (.tup ps)) = true := shaped_toD (tup_ok h l).1 (Nat.le_trans (tup_ok h l).2.1 (by decide))
theorem canon_ok {ps : List PV} (h : ∀ p ∈ ps, okV 5 100 p) : ∀ p ∈ canon ps, okV 5 100 p := fun p hp => h p (mem_canon.mp hp)
theorem eqv_self (p : PV) : PyData.eqv (toD p) (toD p) = true := by
  rw [eqv_toD, cmp_refl]
  rfl
section
variable {P : Program} {w : World} {K : PySem.W.Frag} {mg : Str → Option Value} {base : Heap} {f : Addr} {fd : FuncData}
def spRight : Sp := fun vs H Q _ => ∃ d : Addr, vs = [.ref d] ∧ Dice H d ∧ ∀ H', But d H H' → Dice H' d → Q (.bl true) H'
theorem scRight : FnScope ["_law_dice_here", "_law_some", "_law_one", "_law_other", "_law_due", "_law_told", "_law_turn", "_law_value"] ["_law_dice_here"] (defScope sRight) := ⟨rfl, rfl, rfl, by decide +kernel, rfl, by decide +kernel, by decide +kernel⟩
structure Calls (P : Program) (w : World) (K : PySem.W.Frag) (mg : Str → Option Value) (base : Heap) : Prop where
  va : Cal P w K mg base 7 "_law_va_plain" (spVa K 3)
  near : Cal P w K mg base 6 "_law_va_near" (spNear K)
  rank : Cal P w K mg base 7 "_law_va_rank" (spRank K 6)
  less : Cal P w K mg base 6 "is_less" (spLess K)
  ord : Cal P w K mg base 6 "ordered" (spOrdered K)
  lord : Cal P w K mg base 10 "_law_ordered" (spLOrd K)
  mixed : Cal P w K mg base 2 "_law_mixed" (spMixed K)
theorem ok_right (F : Fun K "_law_right" "_law_right" sRight f fd) (T : Txt mg) (C : Calls P w K mg base) : FnG P w K mg base 11 f fd ["_law_dice_here"] spRight := by
  obtain ⟨f1, fd1, ps1, G1, g1, k1, b1⟩ := C.va
  obtain ⟨f2, fd2, ps2, G2, g2, k2, b2⟩ := C.near
  obtain ⟨f3, fd3, ps3, G3, g3, k3, b3⟩ := C.rank
  obtain ⟨f4, fd4, ps4, G4, g4, k4, b4⟩ := C.less
  obtain ⟨f5, fd5, ps5, G5, g5, k5, b5⟩ := C.ord
  obtain ⟨f6, fd6, ps6, G6, g6, k6, b6⟩ := C.lord
  obtain ⟨f7, fd7, ps7, G7, g7, k7, b7⟩ := C.mixed
  refine okG F scRight (fun vs H Q E h => ?_) (fun cdv A outer s H vs Q E hgd hr h => ?_)
  · obtain ⟨d, rfl, _⟩ := h
    rfl
  obtain ⟨d, rfl, hd, q⟩ := h
  have hu := hr.units
  refine ⟨_, pss_cons (ps_setLc (i := 1) (own := [("_law_turn", 6)]) (g := gName 6) (tt := tYes) (by rfl) scRight.nd rfl rfl (sw_true rfl rfl rfl (by decide +kernel)) (pi_range1 (by rfl) T.range (pa_cons pe_int pa_nil)) (blkOk_by (own := [("_law_turn", 6)]) (N := ["_law_dice_here", "_law_some", "_law_one", "_law_other", "_law_due", "_law_told", "_law_turn", "_law_value"]) (sc := defScope sRight) (by decide +kernel))
      (fun _ _ _ _ _ => pg_name (i := 6) scRight.nd rfl (Or.inl rfl)) (fun _ _ _ _ _ => pts_nil) (fun _ _ _ _ _ => pe_call G1 (hr.mono (by decide)) (by rfl) g1 k1 b1 .nil pass0 (pa_cons (pv 0) (pa_cons pe_int pa_nil))))
    (pss_cons (ps_set (i := 1) scRight.nd rfl (.inl rfl) (pe_op op_cat (pv 1) (pe_lc (own := [("_law_value", 7)]) (g := gName 7) (tt := tYes) (by rfl) scRight.nd (pi_list (pv 1)) (blkOk_by (own := [("_law_value", 7)]) (N := ["_law_dice_here", "_law_some", "_law_one", "_law_other", "_law_due", "_law_told", "_law_turn", "_law_value"]) (sc := defScope sRight) (by decide +kernel))
      (fun _ _ _ _ _ => pg_name (i := 7) scRight.nd rfl (Or.inl rfl)) (fun _ _ _ _ _ => pts_nil) (fun _ _ _ _ _ => pe_call G2 (hr.mono (by decide)) (by rfl) g2 k2 b2 .nil pass0 (pa_cons (pv 0) (pa_cons (pv 7) pa_nil))))))
    (pss_cons (ps_for PassesOwn.never (by rfl) (pi_list (pv 1)) (pg_name (i := 2) scRight.nd rfl (.inl rfl))
      (pss_one (ps_for PassesOwn.never (by rfl) (pi_list (pv 1)) (pg_name (i := 3) scRight.nd rfl (.inl rfl))
        (pss_cons (ps_set (i := 4) scRight.nd rfl (.inl rfl) (pe_cmpR (op_ltK hu) (pe_call G3 (hr.mono (by decide)) (by rfl) g3 k3 b3 .nil pass0 (pa_cons (pv 2) pa_nil)) (pe_call G3 (hr.mono (by decide)) (by rfl) g3 k3 b3 .nil pass0 (pa_cons (pv 3) pa_nil)) (nomark _)))
        (pss_one (ps_if (PW.pt (pw_or (pt_cmpR op_ne (pe_callB cr_repB (by rfl) T.repr (by decide +kernel) (pa_cons (pe_call G4 (hr.mono (by decide)) (by rfl) g4 k4 b4 .nil pass0 (pa_cons (pv 2) (pa_cons (pv 3) pa_nil))) pa_nil)) (pe_callB cr_repB (by rfl) T.repr (by decide +kernel) (pa_cons (pv 4) pa_nil)) (nomark _))
            (pw_or (PW.pt (pw_and (pt_val (pv 4)) (pw_and1 (pt_val (pe_call G4 (hr.mono (by decide)) (by rfl) g4 k4 b4 .nil pass0 (pa_cons (pv 3) (pa_cons (pv 2) pa_nil)))))))
            (pw_or1 (PW.pt (pw_and (pt_not (pt_val (pv 4))) (pw_and (pt_not (pt_val (pe_call G4 (hr.mono (by decide)) (by rfl) g4 k4 b4 .nil pass0 (pa_cons (pv 3) (pa_cons (pv 2) pa_nil))))) (pw_and1 (pt_cmpR (op_neD hu) (pv 2) (pv 3) (nomark _)))))))))) (pss_one ps_never) pss_nil))))))
    (pss_cons (ps_par (i := 4) (j := 5) (by rfl) scRight.nd rfl rfl (by decide) rfl rfl (pa_cons (pe_call G6 hr (by rfl) g6 k6 b6 .nil pass0 (pa_cons (pv 1) pa_nil)) (pa_cons (pe_call G5 (hr.mono (by decide)) (by rfl) g5 k5 b5 .nil pass0 (pa_cons (pe_callTy call_tuple_of (by rfl) T.ttup (by decide +kernel) (pa_cons (pv 1) pa_nil)) pa_nil)) pa_nil)) (by rfl))
    (pss_cons (ps_if (PW.pt (pw_or (pt_cmpR (op_neD hu) (pv 5) (pv 4) (nomark _))
        (pw_or (pt_cmpR op_ne (pe_callB (cr_repT hgd hu) (by rfl) T.repr (by decide +kernel) (pa_cons (pv 5) pa_nil)) (pe_callB (cr_repT hgd hu) (by rfl) T.repr (by decide +kernel) (pa_cons (pv 4) pa_nil)) (nomark _))
        (pw_or (pt_cmpR (op_neD hu) (pe_call G5 (hr.mono (by decide)) (by rfl) g5 k5 b5 .nil pass0 (pa_cons (pe_callTy call_tuple_of (by rfl) T.ttup (by decide +kernel) (pa_cons (pe_call G7 (hr.mono (by decide)) (by rfl) g7 k7 b7 .nil pass0 (pa_cons (pv 0) (pa_cons (pv 1) pa_nil))) pa_nil)) pa_nil)) (pv 4) (nomark _))
        (pw_or1 (pt_cmpR (op_neD hu) (pe_call G5 (hr.mono (by decide)) (by rfl) g5 k5 b5 .nil pass0 (pa_cons (pv 5) pa_nil)) (pv 4) (nomark _))))))) (pss_one ps_never) pss_nil)
    (pss_one (ps_ret (pe_and (pe_cmpR (op_eqD hu) (pe_lc (own := [("_law_one", 2), ("_law_other", 3)]) (g := gTup K 2 (gCons (gName 2) (gCons (gName 3) gNil))) (by rfl) scRight.nd (RZ.pi_zipA (by rfl) T.zip (pa_cons (pv 5) (pa_cons (pe_slice sl_tupA (pv 5) (po_some pe_int) po_none) pa_nil))) (blkOk_by (own := [("_law_one", 2), ("_law_other", 3)]) (N := ["_law_dice_here", "_law_some", "_law_one", "_law_other", "_law_due", "_law_told", "_law_turn", "_law_value"]) (sc := defScope sRight) (by decide +kernel))
        (fun _ _ _ _ _ => pg_tup (by rfl) (pgs_cons (pg_name (i := 2) scRight.nd rfl (Or.inl rfl)) (pgs_cons (pg_name (i := 3) scRight.nd rfl (Or.inl rfl)) pgs_nil))) (fun _ _ _ _ _ => pts_one (pt_not (pt_val (pe_call G4 (hr.mono (by decide)) (by rfl) g4 k4 b4 .nil pass0 (pa_cons (pv 2) (pa_cons (pv 3) pa_nil)))))) (fun _ _ _ _ _ => pe_int)) (pe_lst pa_nil) (nomark _))
      (pe_one (pe_cmpR (op_eqD hu) (pe_call G5 (hr.mono (by decide)) (by rfl) g5 k5 b5 .nil pass0 (pa_cons (pe_op op_catA (pe_callTy call_tuple_of (by rfl) T.ttup (by decide +kernel) (pa_cons (pv 1) pa_nil)) (pv 5)) pa_nil)) (pv 4) (nomark _)))))))))), ?_⟩
  refine ⟨5, rfl, by decide, by decide, fun D1 hD1 => ?_⟩
  have nd1 := hd.ne hD1
  refine lc_range (fun i H3 => ∃ (acc : List V) (as : List PV), But d H H3 ∧ Dice H3 d ∧ H3 D1 = some (.lst acc) ∧ DpAll K H3 acc (toDs as) ∧ acc.length = i ∧ ∀ p ∈ as, okV 4 80 p)
    ⟨[], [], But.same (same_upd hD1), hd.same (same_upd hD1), upd_same, by simp only [toDs]; exact .nil, rfl, fun p hp => absurd hp List.not_mem_nil⟩ (fun i H3 hi hP => ?_) (fun H3 hP => ?_)
  · obtain ⟨acc, as, bt, di, e3, d3, l3, ok3⟩ := hP
    refine ⟨rfl, yes_lc ?_⟩
    refine ⟨_, rfl, d, rfl, di, fun x H4 p bt4 di4 dp gp np zp => ?_⟩
    have e4 := bt4 D1 _ nd1.symm e3
    have T4 := But.tups bt4 di
    have T5 : Tups H4 (upd H4 D1 (.lst (acc ++ [x]))) := tups_upd e4
    refine ⟨acc, e4, by rw [sizeLine_eq]; omega, acc ++ [x], as ++ [p], but_put (bt.trans bt4) hD1, di4.put nd1, upd_same, dps_app (dps_tups (T4.trans T5) _ d3) (dps_one (dp_tups T5 _ dp)), by simp [l3], fun z hz => ?_⟩
    rcases List.mem_append.mp hz with hz | hz
    · exact ok3 z hz
    · rw [List.mem_singleton.mp hz]
      exact ⟨gp, np, zp⟩
  obtain ⟨acc, as, bt, di, e3, d3, l3, ok3⟩ := hP
  have l5 : acc.length = 5 := l3
  refine ⟨_, rfl, _, rfl, D1, rfl, ⟨_, SqL.of e3⟩, fun D2 hD2 => ?_⟩
  have nd2 := di.ne hD2
  refine lc_list (K := K) (a := D1) (xs := acc) (fun i H4 => ∃ (ac2 : List V) (bs : List PV), But d H3 H4 ∧ Dice H4 d ∧ H4 D2 = some (.lst ac2) ∧ DpAll K H4 ac2 (toDs bs) ∧ ac2.length = i ∧ ∀ p ∈ bs, okV 5 100 p)
    ⟨[], [], But.same (same_upd hD2), di.same (same_upd hD2), upd_same, by simp only [toDs]; exact .nil, rfl, fun p hp => absurd hp List.not_mem_nil⟩ (fun i H4 _ hP => ?_) (fun i x H4 hx hP => ?_) (fun H4 hP => ?_)
  · obtain ⟨_, _, b4, _⟩ := hP
    exact SqL.of (b4 D1 _ nd1.symm e3)
  · obtain ⟨ac2, bs, b4, di4, e4, d4, l4, ok4⟩ := hP
    obtain ⟨p, hp, dp⟩ := dps_get d3 hx
    have li := (List.getElem?_eq_some_iff.mp hx).1
    refine ⟨rfl, yes_lc ?_⟩
    refine ⟨_, rfl, _, rfl, d, x, p, rfl, di4, dp_tups (But.tups b4 di) _ dp, ok3 p (List.mem_of_getElem? hp), fun x5 H5 q5 b5 di5 dq oq => ?_⟩
    have e5 := b5 D2 _ nd2.symm e4
    have T5 := But.tups b5 di4
    have T6 : Tups H5 (upd H5 D2 (.lst (ac2 ++ [x5]))) := tups_upd e5
    refine ⟨ac2, e5, by rw [sizeLine_eq]; omega, ac2 ++ [x5], bs ++ [q5], but_put (b4.trans b5) hD2, di5.put nd2, upd_same, dps_app (dps_tups (T5.trans T6) _ d4) (dps_one (dp_tups T6 _ dq)), by simp [l4], fun z hz => ?_⟩
    rcases List.mem_append.mp hz with hz | hz
    · exact ok4 z hz
    · rw [List.mem_singleton.mp hz]
      exact oq
  obtain ⟨ac2, bs, b4, di4, e4, d4, l4, ok4⟩ := hP
  have e34 := b4 D1 _ nd1.symm e3
  refine ⟨D1, D2, acc, ac2, rfl, rfl, e34, e4, by rw [sizeLine_eq]; omega, fun S hS => ?_⟩
  have sS := same_upd (o := .lst (acc ++ ac2)) hS
  have bS : But d H (upd H4 S (.lst (acc ++ ac2))) := (bt.trans b4).trans (But.same sS)
  have diS := di4.same sS
  have nSd : S ≠ d := (di4.ne hS).symm
  have eS : (upd H4 S (.lst (acc ++ ac2))) S = some (.lst (acc ++ ac2)) := upd_same
  have dS : DpAll K (upd H4 S (.lst (acc ++ ac2))) (acc ++ ac2) (toDs (as ++ bs)) := dps_app (dps_tups ((But.tups b4 di).trans (Tups.same sS)) _ d3) (dps_tups (Tups.same sS) _ d4)
  have okS : ∀ p ∈ as ++ bs, okV 5 100 p := fun p hp => (List.mem_append.mp hp).elim (fun z => (ok3 p z).mono (by decide) (by decide)) (ok4 p)
  have l10 : (acc ++ ac2).length = 10 := by rw [List.length_append]; omega
  generalize upd H4 S (.lst (acc ++ ac2)) = H2 at bS diS eS dS ⊢
  generalize acc ++ ac2 = xs at eS dS l10 ⊢
  generalize as ++ bs = ps at dS okS
  clear ok3 ok4 d4 d3 e3 e4 e34 l4 l5 l3 sS
  have lps : ps.length = 10 := by rw [← dps_len dS]; exact l10
  refine ⟨_, rfl, S, rfl, ⟨_, SqL.of eS⟩, ?_⟩
  refine for_list (K := K) (a := S) (xs := xs) (fun i σ H3 => (∃ y2 y3 y4 : Option V, σ = [some (.ref d), some (.ref S), y2, y3, y4, none, none, none]) ∧ Same H2 H3)
    ⟨⟨_, _, _, rfl⟩, Same.refl _⟩ (fun i σ H3 _ hP => SqL.of (hP.2 _ _ eS)) (fun i x σ H3 hx hP => ?_) (fun σ H3 hP => ?_)
  · obtain ⟨⟨y2, y3, y4, rfl⟩, s3⟩ := hP
    obtain ⟨p, hp, dp⟩ := dps_get dS hx
    have op := okS p (List.mem_of_getElem? hp)
    refine ⟨_, rfl, S, rfl, ⟨_, SqL.of (s3 _ _ eS)⟩, ?_⟩
    refine for_list (K := K) (a := S) (xs := xs) (fun j σ H4 => (∃ y3 y4 : Option V, σ = [some (.ref d), some (.ref S), some x, y3, y4, none, none, none]) ∧ Same H2 H4)
      ⟨⟨_, _, rfl⟩, s3⟩ (fun j σ H4 _ hP => SqL.of (hP.2 _ _ eS)) (fun j y σ H4 hy hP => ?_) (fun σ H4 hP => ?_)
    · obtain ⟨⟨y3, y4, rfl⟩, s4⟩ := hP
      obtain ⟨r, hr2, dr⟩ := dps_get dS hy
      have oq := okS r (List.mem_of_getElem? hr2)
      refine ⟨_, rfl, x, p, rfl, dp_tups (Tups.same s4) _ dp, op.1, Nat.le_trans op.2.1 (by decide), Nat.le_trans op.2.2 (by decide), fun k1 H5 s5 e5 => ?_⟩
      refine ⟨_, rfl, y, r, rfl, dp_tups (Tups.same (s4.trans s5)) _ dr, oq.1, Nat.le_trans oq.2.1 (by decide), Nat.le_trans oq.2.2 (by decide), fun k2 H6 s6 e6 => ?_⟩
      refine ⟨p, r, rk_tups (Tups.same s6) _ e5, e6, op.1, oq.1, Nat.le_trans op.2.1 (by decide), Nat.le_trans oq.2.1 (by decide), ?_⟩
      have s26 := s4.trans (s5.trans s6)
      refine ⟨_, rfl, _, rfl, x, y, p, r, rfl, dp_tups (Tups.same s26) _ dp, dp_tups (Tups.same s26) _ dr, op.easy, oq.easy, fun H7 s7 => ?_⟩
      have s27 := s26.trans s7
      refine ⟨lt p r, rfl, _, rfl, lt p r, rfl, rfl, false, congrArg V.bl (by rw [decide_eq_true rfl]; rfl), iteF ?_⟩
      have dp7 := dp_tups (Tups.same s27) _ dp
      have dr7 := dp_tups (Tups.same s27) _ dr
      refine ⟨_, rfl, lt p r, rfl, ?_⟩
      cases hpr : lt p r with
      | true =>
        refine iteT ⟨_, rfl, _, rfl, y, x, r, p, rfl, dr7, dp7, oq.easy, op.easy, fun H8 s8 => ⟨false, congrArg V.bl (lt_asymm hpr), iteF ?_⟩⟩
        exact ⟨_, rfl, true, rfl, iteF (iteF ⟨⟨_, _, rfl⟩, s27.trans s8⟩)⟩
      | false =>
        refine iteF (iteF ?_)
        refine ⟨_, rfl, false, rfl, iteT ?_⟩
        refine ⟨_, rfl, _, rfl, y, x, r, p, rfl, dr7, dp7, oq.easy, op.easy, fun H8 s8 => ⟨lt r p, rfl, ?_⟩⟩
        cases hrp : lt r p with
        | true => exact iteF (iteF ⟨⟨_, _, rfl⟩, s27.trans s8⟩)
        | false =>
          have e : p = r := lt_total hpr hrp
          subst e
          refine iteT ⟨_, rfl, _, rfl, toD p, toD p, dp_tups (Tups.same s8) _ dp7, dp_tups (Tups.same s8) _ dr7, shaped_toD op.1 (Nat.le_trans op.2.1 (by decide)), shaped_toD op.1 (Nat.le_trans op.2.1 (by decide)), false, congrArg V.bl (by rw [eqv_self]; rfl), iteF ?_⟩
          exact ⟨⟨_, _, rfl⟩, s27.trans s8⟩
    · obtain ⟨⟨y3, y4, rfl⟩, s4⟩ := hP
      exact ⟨⟨_, _, _, rfl⟩, s4⟩
  obtain ⟨⟨y2, y3, y4, rfl⟩, s3⟩ := hP
  have b3' : But d H H3 := bS.trans (But.same s3)
  have di3 := diS.same s3
  have eS3 := s3 _ _ eS
  have dS3 := dps_tups (Tups.same s3) _ dS
  have l60 : ps.length ≤ 60 := by omega
  -- both in order
  refine ⟨_, rfl, S, xs, ps, rfl, SqL.of eS3, dS3, okS, l60, fun v1 H5 s5 d5 => ?_⟩
  refine ⟨_, rfl, S, xs, rfl, .inl ⟨SqL.of (s5 _ _ eS3), fun t ht => ?_⟩⟩
  have sT := same_upd (o := .tup xs) ht
  refine ⟨.ref t, ps, rfl, dp_mk (SqT.of upd_same) (dps_tups (Tups.same (s5.trans sT)) _ dS3), tup_easy okS l60, l60, fun v2 H6 s6 d6 => ⟨_, _, rfl, ?_⟩⟩
  have s36 := s5.trans (sT.trans s6)
  have d5' := dp_tups (Tups.same (sT.trans s6)) _ d5
  have okC := canon_ok okS
  have lC : (canon ps).length ≤ 10 := by have := canon_len ps; omega
  have lC60 : (canon ps).length ≤ 60 := by omega
  have shC := tup_shaped okC lC60
  have okT := tup_ok okC lC60
  -- told != due
  refine ⟨_, rfl, _, rfl, toD (.tup (canon ps)), toD (.tup (canon ps)), d6, d5', shC, shC, false, congrArg V.bl (by rw [eqv_self]; rfl), iteF ?_⟩
  -- repr(told) != repr(due)
  refine ⟨_, rfl, v2, canon ps, rfl, d6, okT.1, Nat.le_trans okT.2.1 (by decide), Nat.le_trans okT.2.2 (by decide), _, rfl, v1, canon ps, rfl, d5', okT.1, Nat.le_trans okT.2.1 (by decide), Nat.le_trans okT.2.2 (by decide), rfl, false, congrArg V.bl (by rw [decide_eq_true rfl]; rfl), iteF ?_⟩
  -- the mixed ones
  have di6 := di3.same s36
  refine ⟨_, rfl, _, rfl, d, S, xs, ps, rfl, di6, nSd, s36 _ _ eS3, dps_tups (Tups.same s36) _ dS3, goods_mem.mpr fun p hp => (okS p hp).1, nests_le fun p hp => Nat.le_trans (okS p hp).2.1 (by decide), l60, fun D H7 out qs hD b7 di7 eD dD pm => ?_⟩
  have okQ : ∀ p ∈ qs, okV 5 100 p := fun p hp => okS p (pm.subset hp)
  have lq60 : qs.length ≤ 60 := by rw [pm.length_eq]; exact l60
  refine ⟨D, out, rfl, .inl ⟨SqL.of eD, fun t2 ht2 => ?_⟩⟩
  have sT2 := same_upd (o := .tup out) ht2
  refine ⟨.ref t2, qs, rfl, dp_mk (SqT.of upd_same) (dps_tups (Tups.same sT2) _ dD), tup_easy okQ lq60, lq60, fun v3 H8 s8 d8 => ?_⟩
  have cq : canon qs = canon ps := canon_congr fun z => pm.mem_iff
  rw [cq] at d8
  have T68 := (But.tups b7 di6).trans (Tups.same (sT2.trans s8))
  have b8 : But d H H8 := b3'.trans ((But.same s36).trans (b7.trans (But.same (sT2.trans s8))))
  have di8 := di7.same (sT2.trans s8)
  have d5'' := dp_tups T68 _ d5'
  have d6'' := dp_tups T68 _ d6
  refine ⟨_, rfl, toD (.tup (canon ps)), toD (.tup (canon ps)), d8, d5'', shC, shC, false, congrArg V.bl (by rw [eqv_self]; rfl), iteF ?_⟩
  -- those in order, once more
  refine ⟨_, rfl, v2, canon ps, rfl, d6'', tup_easy okC lC60, lC60, fun v4 H9 s9 d9 => ?_⟩
  rw [canon_idem] at d9
  have d59 := dp_tups (Tups.same s9) _ d5''
  have d69 := dp_tups (Tups.same s9) _ d6''
  refine ⟨_, rfl, toD (.tup (canon ps)), toD (.tup (canon ps)), d9, d59, shC, shC, false, congrArg V.bl (by rw [eqv_self]; rfl), iteF ?_⟩
  have b9 := b8.trans (But.same s9)
  have di9 := di8.same s9
  have eS9 : H9 S = some (.lst xs) := s9 _ _ ((sT2.trans s8) _ _ (b7 S _ nSd (s36 _ _ eS3)))
  have dS9 := dps_tups ((Tups.same s36).trans (T68.trans (Tups.same s9))) _ dS3
  obtain ⟨a2, zs, rfl, hz2, dz2⟩ := dp_tup d69
  -- each of them less than the next
  refine ⟨_, rfl, _, rfl, 1, rfl, ?_⟩
  dsimp only [tNoPart]
  refine sl_read hz2 dz2 fun r10 z10 H10 s10 hr10 dr10 => ?_
  have hz10 := Same.seqT s10 hz2
  have dz10 := dps_tups (Tups.same s10) _ dz2
  refine ⟨a2, r10, zs, z10, rfl, .inr ⟨hz10, hr10, fun D3 hD3 => ?_⟩⟩
  have sD3 := same_upd (o := .lst []) hD3
  refine lc_zipT (K := K) (a := a2) (b := r10) (xs := zs) (ys := z10) (fun _ H11 => Same (upd H10 D3 (.lst [])) H11) (Same.refl _) (fun i H11 hP => ⟨Same.seqT (sD3.trans hP) hz10, Same.seqT (sD3.trans hP) hr10⟩) (fun i x y T2 H11 hx hy hP hT => ?_) (fun H11 hP => ?_)
  · obtain ⟨p, hp, dp⟩ := dps_get dz10 hx
    obtain ⟨p', hp', dp'⟩ := dps_get dr10 hy
    have hn := cut_next hp'
    have hlt := asc_next (asc_canon ps) hp hn
    have sT2 := same_upd (o := .tup [x, y]) hT
    have s12 := sD3.trans (Same.trans hP sT2)
    refine ⟨T2, [x, y], rfl, SqT.of upd_same, rfl, x, [y], rfl, y, [], rfl, rfl, rfl, ?_⟩
    refine ⟨_, rfl, _, rfl, x, y, p, p', rfl, dp_tups (Tups.same s12) _ dp, dp_tups (Tups.same s12) _ dp', (okC p (List.mem_of_getElem? hp)).easy, (okC p' (List.mem_of_getElem? hn)).easy, fun H13 s13 => ⟨true, congrArg V.bl hlt, iteF ?_⟩⟩
    exact Same.trans hP (sT2.trans s13)
  · have s11 : Same H10 H11 := sD3.trans hP
    refine ⟨Nat.zero_le _, fun l hl => ?_⟩
    have sL := same_upd (o := .lst []) hl
    refine ⟨.list [], .list [], .lst (Same.seq sL (SqL.of (hP _ _ upd_same))) .nil, .lst (SqL.of upd_same) .nil, shaped_nil, shaped_nil, true, congrArg V.bl (by simp only [PyData.eqv, PyData.eqvAll]), iteT ?_⟩
    -- what was found is in order already
    have s9L := s10.trans (s11.trans sL)
    have eSL := s9L _ _ eS9
    have dSL := dps_tups (Tups.same s9L) _ dS9
    have hzL := Same.seqT s9L hz2
    have dzL := dps_tups (Tups.same s9L) _ dz2
    refine ⟨_, rfl, S, xs, rfl, .inl ⟨SqL.of eSL, fun t3 ht3 => ⟨_, rfl, ?_⟩⟩⟩
    have sT3 := same_upd (o := .tup xs) ht3
    have lzs := dps_len dz2
    refine cat_read (ps := ps) (qs := canon ps) (SqT.of upd_same) (Same.seqT sT3 hzL) (dps_tups (Tups.same sT3) _ dSL) (dps_tups (Tups.same sT3) _ dzL) (by rw [sizeLine_eq]; omega) fun r14 z14 H14 s14 hr14 dr14 => ?_
    have okA : ∀ p ∈ ps ++ canon ps, okV 5 100 p := fun p hp => (List.mem_append.mp hp).elim (okS p) (okC p)
    have lA : (ps ++ canon ps).length ≤ 60 := by rw [List.length_append]; omega
    refine ⟨.ref r14, ps ++ canon ps, rfl, dp_mk hr14 dr14, tup_easy okA lA, lA, fun v5 H15 s15 d15 => ?_⟩
    have cA : canon (ps ++ canon ps) = canon ps := canon_congr fun z => by
      rw [List.mem_append, mem_canon, or_self]
    rw [cA] at d15
    have s9E := s9L.trans (sT3.trans (s14.trans s15))
    refine ⟨_, rfl, toD (.tup (canon ps)), toD (.tup (canon ps)), d15, dp_tups (Tups.same s9E) _ d59, shC, shC, ?_⟩
    rw [eqv_self]
    exact q _ (b9.trans (But.same s9E)) (di9.same s9E)
end
end K1

namespace K1
open PySem PySem.Spec PyProof.Rows L2
/-! ### the law's constants -/
theorem lt1 : lt (.int 9) (.int 10) = true := by rfl
theorem lt2 : lt (.str "9") (.str "10") = false := by decide +kernel
theorem lt3 : lt (.tup []) (.tup [.non]) = true := by rfl
theorem lt4 : lt (.tup [.int 2]) (.tup [.int 1, .tup [.int 2]]) = false := by rfl
theorem lt5 : lt (.str "z") (.tup []) = true := by rfl
theorem lt6 : lt .non (.int (-1)) = true := by rfl
theorem lt7 : lt (.int 5) (.int 5) = false := by rfl
theorem goodA : goodS "a" := ⟨by decide +kernel, by decide +kernel⟩
theorem e9 : easy (.int 9) := ⟨by simp only [good]; exact ⟨by omega, by omega⟩, by simp only [nest]; decide, by simp only [sz]; decide⟩
theorem e10 : easy (.int 10) := ⟨by simp only [good]; exact ⟨by omega, by omega⟩, by simp only [nest]; decide, by simp only [sz]; decide⟩
theorem e5 : easy (.int 5) := ⟨by simp only [good]; exact ⟨by omega, by omega⟩, by simp only [nest]; decide, by simp only [sz]; decide⟩
theorem em1 : easy (.int (-1)) := ⟨by simp only [good]; exact ⟨by omega, by omega⟩, by simp only [nest]; decide, by simp only [sz]; decide⟩
theorem en : easy .non := ⟨by simp only [good], by simp only [nest]; decide, by simp only [sz]; decide⟩
theorem es9 : easy (.str "9") := ⟨good_str ⟨by decide +kernel, by decide +kernel⟩, by simp only [nest]; decide, by simp only [sz]; decide⟩
theorem es10 : easy (.str "10") := ⟨good_str ⟨by decide +kernel, by decide +kernel⟩, by simp only [nest]; decide, by simp only [sz]; decide⟩
theorem esz : easy (.str "z") := ⟨good_str ⟨by decide +kernel, by decide +kernel⟩, by simp only [nest]; decide, by simp only [sz]; decide⟩
theorem et0 : easy (.tup []) := ⟨by simp only [good, goods], by simp only [nest, nests]; decide, by simp only [sz, szs]; decide⟩
theorem etn : easy (.tup [.non]) := ⟨by simp only [good, goods]; exact ⟨trivial, trivial⟩, by simp only [nest, nests]; decide, by simp only [sz, szs]; decide⟩
theorem et2 : easy (.tup [.int 2]) := ⟨by simp only [good, goods]; exact ⟨⟨by omega, by omega⟩, trivial⟩, by simp only [nest, nests]; decide, by simp only [sz, szs]; decide⟩
theorem et12 : easy (.tup [.int 1, .tup [.int 2]]) := ⟨by simp only [good, goods]; exact ⟨⟨by omega, by omega⟩, ⟨⟨by omega, by omega⟩, trivial⟩, trivial⟩, by simp only [nest, nests]; decide, by simp only [sz, szs]; decide⟩
def lastIn : List PV := [.tup [.tup [.str "a"], .int 1], .str "a", .tup [], .int 3, .non, .str "a", .tup [.tup [.str "a"]]]
def lastOut : List PV := [.non, .int 3, .str "a", .tup [], .tup [.tup [.str "a"]], .tup [.tup [.str "a"], .int 1]]
theorem last_canon : canon lastIn = lastOut := by rfl
theorem last_good : goods lastIn := by
  unfold lastIn
  simp only [good, goods]
  exact ⟨⟨⟨goodA, trivial⟩, ⟨by omega, by omega⟩, trivial⟩, goodA, trivial, ⟨by omega, by omega⟩, trivial, goodA, ⟨⟨goodA, trivial⟩, trivial⟩, trivial⟩
theorem last_easy : easy (.tup lastIn) := ⟨by simp only [good]; exact last_good, by unfold lastIn; simp only [nest, nests]; decide, by unfold lastIn; simp only [sz, szs]; decide⟩
theorem last_shaped : SeqAt.shaped (toD (.tup lastOut)) = true := by
  refine shaped_toD ?_ (by unfold lastOut; simp only [nest, nests]; decide)
  simp only [good]
  unfold lastOut
  simp only [good, goods]
  exact ⟨trivial, ⟨by omega, by omega⟩, goodA, trivial, ⟨⟨goodA, trivial⟩, trivial⟩, ⟨⟨goodA, trivial⟩, ⟨by omega, by omega⟩, trivial⟩, trivial⟩
theorem nil_shaped : SeqAt.shaped (toD (.tup [])) = true := shaped_toD (by simp only [good, goods]) (by simp only [nest, nests]; decide)
def due7 : List PyData := [.bool true, .bool false, .bool true, .bool false, .bool true, .bool true, .bool false]
theorem due_shaped : SeqAt.shaped (.list due7) = true := by decide +kernel
theorem due_eqv : PyData.eqv (.list due7) (.list due7) = true := by decide +kernel
theorem dps0 {K : PySem.W.Frag} {H : Hp} : DpAll K H [] (toDs []) := by
  simp only [toDs]
  exact .nil
theorem dpsC {K : PySem.W.Frag} {H : Hp} {v : V} {p : PV} {vs : List V} {ps : List PV} (a : Dp K H v (toD p)) (b : DpAll K H vs (toDs ps)) : DpAll K H (v :: vs) (toDs (p :: ps)) := by
  simp only [toDs]
  exact .cons a b
theorem dp_t {K : PySem.W.Frag} {H : Hp} {t : Addr} {xs : List V} {ps : List PV} (e : H t = some (.tup xs)) (a : DpAll K H xs (toDs ps)) : Dp K H (.ref t) (toD (.tup ps)) := dp_mk (SqT.of e) a
theorem but_same {d : Addr} {H H1 H2 : Hp} (b : But d H1 H2) (s : Same H H1) (h : H d = none) : Same H H2 := fun a o e => b a o (ne_of_none e h) (s a o e)
end K1

namespace K1
open PySem PySem.Spec PyProof.Rows L2
section
variable {P : Program} {w : World} {K : PySem.W.Frag} {mg : Str → Option Value} {base : Heap} {f : Addr} {fd : FuncData}
/-- a def of the text that is called where no repr is under way -/
def CalG (P : Program) (w : World) (K : PySem.W.Frag) (mg : Str → Option Value) (base : Heap) (k : Nat) (x : Str) (sp : Sp) : Prop :=
  ∃ (f : Addr) (fd : FuncData) (ps : List Str), FnG P w K mg base k f fd ps sp ∧ mg x = some (.ref f) ∧ PySem.W.keepIn K (.ref f) = true ∧ Binds K fd ps []
def spLaw (K : PySem.W.Frag) : Sp := fun vs H Q _ => ∃ (a : Addr) (ns : List Int), vs = [.ref a] ∧ SqL K H a (ns.map V.int) ∧ ∀ H', Q (.bl true) H'
theorem scLaw : FnScope ["_law_script", "_law_spot", "_law_dice_here", "_law_told"] ["_law_script"] (defScope sLaw) := ⟨rfl, rfl, rfl, by decide +kernel, rfl, by decide +kernel, by decide +kernel⟩
theorem ok_law (F : Fun K "law" "law" sLaw f fd) (T : Txt mg) (C1 : Cal P w K mg base 1 "_law_dice" (spDice K)) (C2 : CalG P w K mg base 11 "_law_right" spRight) (C3 : Cal P w K mg base 6 "is_less" (spLess K)) (C4 : Cal P w K mg base 6 "ordered" (spOrdered K)) :
    FnG P w K mg base 12 f fd ["_law_script"] (spLaw K) := by
  obtain ⟨f1, fd1, ps1, G1, g1, k1, b1⟩ := C1
  obtain ⟨f2, fd2, ps2, G2, g2, k2, b2⟩ := C2
  obtain ⟨f3, fd3, ps3, G3, g3, k3, b3⟩ := C3
  obtain ⟨f4, fd4, ps4, G4, g4, k4, b4⟩ := C4
  refine okG F scLaw (fun vs H Q E h => ?_) (fun cdv A outer s H vs Q E hgd hr h => ?_)
  · obtain ⟨a, ns, rfl, _⟩ := h
    rfl
  obtain ⟨a, ns, rfl, hS, q⟩ := h
  have hu := hr.units
  have r6 := hr.mono (show 6 ≤ 11 by decide)
  refine ⟨_, pss_cons (ps_for PassesOwn.never (by rfl) (pi_range1 (by rfl) T.range (pa_cons (pe_callB (call_max2 (by rfl)) (by rfl) T.max (by decide +kernel) (pa_cons pe_int (pa_cons (pe_callB (call_min2 (by rfl)) (by rfl) T.min (by decide +kernel) (pa_cons pe_int (pa_cons (pe_callB call_len_seq (by rfl) T.len PySem.boot_len (pa_cons (pv 0) pa_nil)) pa_nil))) pa_nil))) pa_nil)) (pg_name (i := 1) scLaw.nd rfl (.inl rfl))
      (pss_cons (ps_set (i := 2) scLaw.nd rfl (.inl rfl) (pe_call G1 (hr.mono (by decide)) (by rfl) g1 k1 b1 .nil pass0 (pa_cons (pv 0) (pa_cons (pv 1) pa_nil))))
        (pss_one (ps_if (PW.pt (pw_or (pt_not (pt_val (pe_callG G2 hgd hr (by rfl) g2 k2 b2 .nil pass0 (pa_cons (pv 2) pa_nil)))) (pw_or1 (pt_not (pt_val (pe_callG G2 hgd hr (by rfl) g2 k2 b2 .nil pass0 (pa_cons (pv 2) pa_nil))))))) (pss_one ps_never) pss_nil))))
    (pss_cons (ps_set (i := 3) scLaw.nd rfl (.inl rfl) (pe_lst
      (pa_cons (pe_call G3 r6 (by rfl) g3 k3 b3 .nil pass0 (pa_cons pe_int (pa_cons pe_int pa_nil)))
      (pa_cons (pe_call G3 r6 (by rfl) g3 k3 b3 .nil pass0 (pa_cons pe_str (pa_cons pe_str pa_nil)))
      (pa_cons (pe_call G3 r6 (by rfl) g3 k3 b3 .nil pass0 (pa_cons (pe_tup pa_nil) (pa_cons (pe_tup (pa_cons pe_non pa_nil)) pa_nil)))
      (pa_cons (pe_call G3 r6 (by rfl) g3 k3 b3 .nil pass0 (pa_cons (pe_tup (pa_cons pe_int pa_nil)) (pa_cons (pe_tup (pa_cons pe_int (pa_cons (pe_tup (pa_cons pe_int pa_nil)) pa_nil))) pa_nil)))
      (pa_cons (pe_call G3 r6 (by rfl) g3 k3 b3 .nil pass0 (pa_cons pe_str (pa_cons (pe_tup pa_nil) pa_nil)))
      (pa_cons (pe_call G3 r6 (by rfl) g3 k3 b3 .nil pass0 (pa_cons pe_non (pa_cons (pe_un un_neg pe_int) pa_nil)))
      (pa_cons (pe_call G3 r6 (by rfl) g3 k3 b3 .nil pass0 (pa_cons pe_int (pa_cons pe_int pa_nil))) pa_nil)))))))))
    (pss_cons (ps_if (PW.pt (pw_or (pt_cmpR (op_neD hu) (pv 3) (pe_lst (pa_cons pe_bl (pa_cons pe_bl (pa_cons pe_bl (pa_cons pe_bl (pa_cons pe_bl (pa_cons pe_bl (pa_cons pe_bl pa_nil)))))))) (nomark _))
        (pw_or1 (pt_cmpR (op_neD hu) (pe_call G4 r6 (by rfl) g4 k4 b4 .nil pass0 (pa_cons (pe_tup pa_nil) pa_nil)) (pe_tup pa_nil) (nomark _))))) (pss_one ps_never) pss_nil)
    (pss_one (ps_ret (pe_cmpR (op_eqD hu) (pe_call G4 r6 (by rfl) g4 k4 b4 .nil pass0 (pa_cons
        (pe_tup (pa_cons (pe_tup (pa_cons (pe_tup (pa_cons pe_str pa_nil)) (pa_cons pe_int pa_nil))) (pa_cons pe_str (pa_cons (pe_tup pa_nil) (pa_cons pe_int (pa_cons pe_non (pa_cons pe_str (pa_cons (pe_tup (pa_cons (pe_tup (pa_cons pe_str pa_nil)) pa_nil)) pa_nil)))))))) pa_nil))
        (pe_tup (pa_cons pe_non (pa_cons pe_int (pa_cons pe_str (pa_cons (pe_tup pa_nil) (pa_cons (pe_tup (pa_cons (pe_tup (pa_cons pe_str pa_nil)) pa_nil)) (pa_cons (pe_tup (pa_cons (pe_tup (pa_cons pe_str pa_nil)) (pa_cons pe_int pa_nil))) pa_nil))))))) (nomark _)))))), ?_⟩
  refine ⟨_, rfl, a, _, rfl, .inl hS, _, _, rfl, _, _, rfl, ?_⟩
  generalize hn : (if (if (((ns.map V.int).length : Nat) : Int) < 3 then (((ns.map V.int).length : Nat) : Int) else 3) > 1 then (if (((ns.map V.int).length : Nat) : Int) < 3 then (((ns.map V.int).length : Nat) : Int) else 3) else 1) = n
  have hn3 : n ≤ 3 ∧ 1 ≤ n := by
    rw [← hn]
    split <;> split <;> omega
  refine ⟨n, rfl, by omega, by omega, ?_⟩
  refine for_range (fun i σ H1 => (∃ y1 y2 : Option V, σ = [some (.ref a), y1, y2, none]) ∧ Same H H1) ⟨⟨_, _, rfl⟩, Same.refl H⟩ (fun i σ H1 hi hP => ?_) (fun σ H1 hP => ?_)
  · obtain ⟨⟨y1, y2, rfl⟩, s1⟩ := hP
    refine ⟨_, rfl, _, rfl, a, ns, i, (by show [V.ref a, V.int (0 + (i : Int))] = _; rw [Int.zero_add]), Same.seq s1 hS, by omega, fun D hD x y => ?_⟩
    have sD := same_upd (o := .lst [.int x, .int y, .int 0]) hD
    refine ⟨_, rfl, D, rfl, ⟨x, y, 0, upd_same⟩, fun H2 b2 d2 => ⟨true, rfl, iteF ?_⟩⟩
    refine ⟨_, rfl, D, rfl, d2, fun H3 b3 d3 => ⟨true, rfl, iteF ?_⟩⟩
    exact ⟨⟨_, _, rfl⟩, s1.trans (but_same (b2.trans b3) sD hD)⟩
  obtain ⟨⟨y1, y2, rfl⟩, s1⟩ := hP
  clear hn hn3
  refine ⟨.int 9, .int 10, .int 9, .int 10, rfl, dp_int _, dp_int _, e9, e10, fun H2 _ => ?_⟩
  rw [lt1]
  refine ⟨.str "9", .str "10", .str "9", .str "10", rfl, dp_str _, dp_str _, es9, es10, fun H3 _ => ?_⟩
  rw [lt2]
  refine ⟨(by show 0 ≤ sizeLine; decide), fun t1 h1 => ⟨(by show 1 ≤ sizeLine; decide), fun t2 h2 => ?_⟩⟩
  refine ⟨.ref t1, .ref t2, .tup [], .tup [.non], rfl, dp_t (same_upd h2 _ _ upd_same) dps0, dp_t upd_same (dpsC dp_non dps0), et0, etn, fun H4 _ => ?_⟩
  rw [lt3]
  refine ⟨(by show 1 ≤ sizeLine; decide), fun t3 h3 => ⟨(by show 1 ≤ sizeLine; decide), fun t4 h4 => ⟨(by show 2 ≤ sizeLine; decide), fun t5 h5 => ?_⟩⟩⟩
  have e3 := ((same_upd (o := .tup [.int 2]) h4).trans (same_upd (o := .tup [.int 1, .ref t4]) h5)) _ _ (upd_same (H := H4) (a := t3) (o := .tup [.int 2]))
  have e4 := (same_upd (o := .tup [.int 1, .ref t4]) h5) _ _ (upd_same (H := upd H4 t3 (.tup [.int 2])) (a := t4) (o := .tup [.int 2]))
  refine ⟨.ref t3, .ref t5, .tup [.int 2], .tup [.int 1, .tup [.int 2]], rfl, dp_t e3 (dpsC (dp_int 2) dps0), dp_t upd_same (dpsC (dp_int 1) (dpsC (dp_t e4 (dpsC (dp_int 2) dps0)) dps0)), et2, et12, fun H5 _ => ?_⟩
  rw [lt4]
  refine ⟨(by show 0 ≤ sizeLine; decide), fun t6 h6 => ⟨.str "z", .ref t6, .str "z", .tup [], rfl, dp_str _, dp_t upd_same dps0, esz, et0, fun H6 _ => ?_⟩⟩
  rw [lt5]
  refine ⟨1, rfl, .non, .int (-1), .non, .int (-1), rfl, dp_non, dp_int _, en, em1, fun H7 _ => ?_⟩
  rw [lt6]
  refine ⟨.int 5, .int 5, .int 5, .int 5, rfl, dp_int _, dp_int _, e5, e5, fun H8 _ => ?_⟩
  rw [lt7]
  refine ⟨(by show 7 ≤ sizeLine; decide), fun D hD => ?_⟩
  -- the answers
  refine ⟨_, rfl, (by show 7 ≤ sizeLine; decide), fun D2 hD2 => ?_⟩
  have b7 : DpAll K (upd (upd H8 D (.lst [.bl true, .bl false, .bl true, .bl false, .bl true, .bl true, .bl false])) D2 (.lst [.bl true, .bl false, .bl true, .bl false, .bl true, .bl true, .bl false])) [.bl true, .bl false, .bl true, .bl false, .bl true, .bl true, .bl false] due7 :=
    .cons (.bl _) (.cons (.bl _) (.cons (.bl _) (.cons (.bl _) (.cons (.bl _) (.cons (.bl _) (.cons (.bl _) .nil))))))
  refine ⟨.list due7, .list due7, .lst (SqL.of (same_upd hD2 _ _ upd_same)) b7, .lst (SqL.of upd_same) b7, due_shaped, due_shaped, false, congrArg V.bl (by rw [due_eqv]; rfl), iteF ?_⟩
  refine ⟨(by show 0 ≤ sizeLine; decide), fun t7 h7 => ⟨.ref t7, [], rfl, dp_t upd_same dps0, et0, by decide, fun v1 H9 s9 d9 => ⟨(by show 0 ≤ sizeLine; decide), fun t8 h8 => ?_⟩⟩⟩
  have c0 : canon [] = [] := rfl
  rw [c0] at d9
  refine ⟨toD (.tup []), toD (.tup []), dp_tups (tups_new h8) _ d9, dp_t upd_same dps0, nil_shaped, nil_shaped, false, congrArg V.bl (by rw [eqv_self]; rfl), iteF ?_⟩
  generalize upd H9 t8 (.tup []) = H10
  -- the last ones
  refine ⟨(by show 1 ≤ sizeLine; decide), fun a1 i1 => ⟨(by show 2 ≤ sizeLine; decide), fun a2 i2 => ⟨(by show 0 ≤ sizeLine; decide), fun a3 i3 => ⟨(by show 1 ≤ sizeLine; decide), fun a4 i4 => ⟨(by show 1 ≤ sizeLine; decide), fun a5 i5 => ⟨(by show 7 ≤ sizeLine; decide), fun a6 i6 => ?_⟩⟩⟩⟩⟩⟩
  have z6 := same_upd (o := .tup [.ref a2, .str "a", .ref a3, .int 3, .non, .str "a", .ref a5]) i6
  have z5 := (same_upd (o := .tup [.ref a4]) i5).trans z6
  have z4 := (same_upd (o := .tup [.str "a"]) i4).trans z5
  have z3 := (same_upd (o := .tup []) i3).trans z4
  have z2 := (same_upd (o := .tup [.ref a1, .int 1]) i2).trans z3
  have w1 := dp_t (K := K) (z2 _ _ upd_same) (dpsC (dp_str "a") dps0)
  have w2 := dp_t (K := K) (z3 _ _ upd_same) (dpsC w1 (dpsC (dp_int 1) dps0))
  have w3 := dp_t (K := K) (z4 _ _ upd_same) dps0
  have w4 := dp_t (K := K) (z5 _ _ upd_same) (dpsC (dp_str "a") dps0)
  have w5 := dp_t (K := K) (z6 _ _ upd_same) (dpsC w4 dps0)
  refine ⟨.ref a6, lastIn, rfl, dp_t upd_same (dpsC w2 (dpsC (dp_str "a") (dpsC w3 (dpsC (dp_int 3) (dpsC dp_non (dpsC (dp_str "a") (dpsC w5 dps0))))))), last_easy, by decide, fun v2 H11 s11 d11 => ?_⟩
  rw [last_canon] at d11
  refine ⟨(by show 0 ≤ sizeLine; decide), fun b1 j1 => ⟨(by show 1 ≤ sizeLine; decide), fun b2 j2 => ⟨(by show 1 ≤ sizeLine; decide), fun b3 j3 => ⟨(by show 1 ≤ sizeLine; decide), fun b4 j4 => ⟨(by show 2 ≤ sizeLine; decide), fun b5 j5 => ⟨(by show 6 ≤ sizeLine; decide), fun b6 j6 => ?_⟩⟩⟩⟩⟩⟩
  have x6 := same_upd (o := .tup [.non, .int 3, .str "a", .ref b1, .ref b3, .ref b5]) j6
  have x5 := (same_upd (o := .tup [.ref b4, .int 1]) j5).trans x6
  have x4 := (same_upd (o := .tup [.str "a"]) j4).trans x5
  have x3 := (same_upd (o := .tup [.ref b2]) j3).trans x4
  have x2 := (same_upd (o := .tup [.str "a"]) j2).trans x3
  have x1 := (same_upd (o := .tup []) j1).trans x2
  have u1 := dp_t (K := K) (x2 _ _ upd_same) dps0
  have u2 := dp_t (K := K) (x3 _ _ upd_same) (dpsC (dp_str "a") dps0)
  have u3 := dp_t (K := K) (x4 _ _ upd_same) (dpsC u2 dps0)
  have u4 := dp_t (K := K) (x5 _ _ upd_same) (dpsC (dp_str "a") dps0)
  have u5 := dp_t (K := K) (x6 _ _ upd_same) (dpsC u4 (dpsC (dp_int 1) dps0))
  refine ⟨toD (.tup lastOut), toD (.tup lastOut), dp_tups (Tups.same x1) _ d11, dp_t upd_same (dpsC dp_non (dpsC (dp_int 3) (dpsC (dp_str "a") (dpsC u1 (dpsC u3 (dpsC u5 dps0)))))), last_shaped, last_shaped, ?_⟩
  rw [eqv_self]
  exact q _
end
end K1

namespace K1
open PySem PySem.Spec PyProof.Rows L2
/-! ### what the top has written -/
def DefIn (K : PySem.W.Frag) (x : Str) (st : Stmt) : Prop := ∃ (f : Addr) (oc : Value) (od : Option Addr) (kV doc pm : Value) (an : Option Addr) (cd ct : Value) (sl : Array (Option Value)),
  PySem.W.nsIn K mainGlobals x = some (some (.ref f)) ∧ K.lookup f = some ⟨oc, od, .func (PySem.W.fnOf x x (defArgs st) (defBody st) (defScope st) .none kV doc pm an cd ct), sl⟩ ∧ PySem.W.codeIn K cd x = true ∧ PySem.W.keepIn K (.ref f) = true
theorem def_in {K : PySem.W.Frag} {x : Str} {st : Stmt} {f : Addr} {oc : Value} {od : Option Addr} {kV doc pm : Value} {an : Option Addr} {cd ct : Value} {sl : Array (Option Value)} (a : PySem.W.nsIn K mainGlobals x = some (some (.ref f)))
    (l : K.lookup f = some ⟨oc, od, .func (PySem.W.fnOf x x (defArgs st) (defBody st) (defScope st) .none kV doc pm an cd ct), sl⟩) (c : PySem.W.codeIn K cd x = true) (k : PySem.W.keepIn K (.ref f) = true) : DefIn K x st := ⟨f, oc, od, kV, doc, pm, an, cd, ct, sl, a, l, c, k⟩
theorem DefIn.fn {K : PySem.W.Frag} {x : Str} {st : Stmt} {h : Heap} {mg : Str → Option Value} (d : DefIn K x st) (X : K.In h) (G : h.Ns mainGlobals mg) : ∃ (f : Addr) (fd : FuncData), Fun K x x st f fd ∧ mg x = some (.ref f) ∧ PySem.W.keepIn K (.ref f) = true := by
  obtain ⟨f, oc, od, kV, doc, pm, an, cd, ct, sl, a, l, c, k⟩ := d
  exact ⟨f, _, fun_mk l c k, PySem.W.mg_of X G a, k⟩
theorem great_of {p : Program} {lv : List (Str × PySem.W.WData)} {mg : Str → Option Value} {h : Heap} {x : Str} {i : Int} (X : PySem.W.XL p lv mg h) (hm : (x, PySem.W.WData.int i) ∈ lv) : ∃ t, mg x = some (.int i t) := by
  obtain ⟨v, hv, hr⟩ := X.2.val _ hm
  cases hr
  exact ⟨_, hv⟩
theorem signs_of {p : Program} {lv : List (Str × PySem.W.WData)} {mg : Str → Option Value} {h : Heap} {x y : Str} (X : PySem.W.XL p lv mg h) (hm : (x, PySem.W.WData.str y) ∈ lv) (e : y = signs) : ∃ t, mg x = some (.str signs t) := by
  obtain ⟨v, hv, hr⟩ := X.2.val _ hm
  cases hr
  rw [e] at hv
  exact ⟨_, hv⟩
theorem all_mk {l : PySem.W.OpenLaw} {w : World} {K : PySem.W.Frag} {h : Heap} {mg : Str → Option Value} {fa : Addr} {t1 t2 : Tok} (X : K.In h) (G : h.Ns mainGlobals mg) (hfa : mg "law" = some (.ref fa))
    (hg : ∃ t, mg "GREATEST" = some (.int 1000000000000000000000000000000000000000000000000000000000000 t)) (hs : ∃ t, mg "STRING_SIGNS" = some (.str signs t)) (hn : PySem.W.nsIn K mainGlobals "MAX_NEST" = some (some (.int 12 t1))) (hm : PySem.W.nsIn K mainGlobals "MAX_STRING" = some (some (.int 3000 t2)))
    (z0 : PySem.W.nsIn K mainGlobals "isinstance" = some none) (z1 : PySem.W.nsIn K mainGlobals "int" = some none) (z2 : PySem.W.nsIn K mainGlobals "bool" = some none) (z3 : PySem.W.nsIn K mainGlobals "str" = some none) (z4 : PySem.W.nsIn K mainGlobals "tuple" = some none) (z5 : PySem.W.nsIn K mainGlobals "list" = some none) (z6 : PySem.W.nsIn K mainGlobals "len" = some none) (z7 : PySem.W.nsIn K mainGlobals "all" = some none) (z8 : PySem.W.nsIn K mainGlobals "zip" = some none) (z9 : PySem.W.nsIn K mainGlobals "range" = some none) (z10 : PySem.W.nsIn K mainGlobals "abs" = some none) (z11 : PySem.W.nsIn K mainGlobals "max" = some none) (z12 : PySem.W.nsIn K mainGlobals "min" = some none) (z13 : PySem.W.nsIn K mainGlobals "repr" = some none) (z14 : PySem.W.nsIn K mainGlobals "sorted" = some none)
    (d0 : DefIn K "is_integer" sInteger) (d1 : DefIn K "has_signs" sSigns) (d2 : DefIn K "is_string" sString) (d3 : DefIn K "is_atom" sAtom) (d4 : DefIn K "is_plain" sPlain) (d5 : DefIn K "rank_of" sRank) (d6 : DefIn K "compared_atoms" sAtoms) (d7 : DefIn K "compared" sCompared) (d8 : DefIn K "merged" sMerged) (d9 : DefIn K "ordered_in" sOrderedIn) (d10 : DefIn K "require_plain" sRequire) (d11 : DefIn K "is_less" sLess) (d12 : DefIn K "ordered" sOrdered) (d13 : DefIn K "_law_dice" sDice) (d14 : DefIn K "_law_roll" sRoll) (d15 : DefIn K "_law_pick" sPick) (d16 : DefIn K "_law_mixed" sMixed) (d17 : DefIn K "_law_va_plain" sVaPlain) (d18 : DefIn K "_law_va_near" sVaNear) (d19 : DefIn K "_law_va_rank" sVaRank) (d20 : DefIn K "_law_ordered" sLawOrdered) (d21 : DefIn K "_law_right" sRight) (d22 : DefIn K "law" sLaw) :
    ∃ fd : FuncData, (∀ (s : Shared) (v : Value), BindsTo s fd ⟨[v], []⟩ [("_law_script", v)]) ∧ ∀ base : Heap, K.In base → base.Ns mainGlobals mg → FnG l.prog w K mg base 12 fa fd ["_law_script"] (spLaw K) := by
  have T : Txt mg := {
    isi := PySem.W.mg_none_of X G z0
    tint := PySem.W.mg_none_of X G z1
    tbool := PySem.W.mg_none_of X G z2
    tstr := PySem.W.mg_none_of X G z3
    ttup := PySem.W.mg_none_of X G z4
    tlist := PySem.W.mg_none_of X G z5
    len := PySem.W.mg_none_of X G z6
    all := PySem.W.mg_none_of X G z7
    zip := PySem.W.mg_none_of X G z8
    range := PySem.W.mg_none_of X G z9
    abs := PySem.W.mg_none_of X G z10
    max := PySem.W.mg_none_of X G z11
    min := PySem.W.mg_none_of X G z12
    repr := PySem.W.mg_none_of X G z13
    sorted := PySem.W.mg_none_of X G z14
    great := hg
    nestMax := ⟨t1, PySem.W.mg_of X G hn⟩
    strMax := ⟨t2, PySem.W.mg_of X G hm⟩
    signs := hs }
  obtain ⟨f0, fd0, F0, m0, k0⟩ := d0.fn X G
  obtain ⟨f1, fd1, F1, m1, k1⟩ := d1.fn X G
  obtain ⟨f2, fd2, F2, m2, k2⟩ := d2.fn X G
  obtain ⟨f3, fd3, F3, m3, k3⟩ := d3.fn X G
  obtain ⟨f4, fd4, F4, m4, k4⟩ := d4.fn X G
  obtain ⟨f5, fd5, F5, m5, k5⟩ := d5.fn X G
  obtain ⟨f6, fd6, F6, m6, k6⟩ := d6.fn X G
  obtain ⟨f7, fd7, F7, m7, k7⟩ := d7.fn X G
  obtain ⟨f8, fd8, F8, m8, k8⟩ := d8.fn X G
  obtain ⟨f9, fd9, F9, m9, k9⟩ := d9.fn X G
  obtain ⟨f10, fd10, F10, m10, k10⟩ := d10.fn X G
  obtain ⟨f11, fd11, F11, m11, k11⟩ := d11.fn X G
  obtain ⟨f12, fd12, F12, m12, k12⟩ := d12.fn X G
  obtain ⟨f13, fd13, F13, m13, k13⟩ := d13.fn X G
  obtain ⟨f14, fd14, F14, m14, k14⟩ := d14.fn X G
  obtain ⟨f15, fd15, F15, m15, k15⟩ := d15.fn X G
  obtain ⟨f16, fd16, F16, m16, k16⟩ := d16.fn X G
  obtain ⟨f17, fd17, F17, m17, k17⟩ := d17.fn X G
  obtain ⟨f18, fd18, F18, m18, k18⟩ := d18.fn X G
  obtain ⟨f19, fd19, F19, m19, k19⟩ := d19.fn X G
  obtain ⟨f20, fd20, F20, m20, k20⟩ := d20.fn X G
  obtain ⟨f21, fd21, F21, m21, k21⟩ := d21.fn X G
  have b0 := F0.binds (ps := ["value"]) fun _ _ _ _ _ _ us hl => match us, hl with | [_], _ => rfl
  have b1 := F1.binds (ps := ["value", "signs", "most"]) fun _ _ _ _ _ _ us hl => match us, hl with | [_, _, _], _ => rfl
  have b2 := F2.binds (ps := ["value"]) fun _ _ _ _ _ _ us hl => match us, hl with | [_], _ => rfl
  have b3 := F3.binds (ps := ["value"]) fun _ _ _ _ _ _ us hl => match us, hl with | [_], _ => rfl
  have b4 := F4.binds (ps := ["value"]) fun _ _ _ _ _ _ us hl => match us, hl with | [_], _ => rfl
  have b5 := F5.binds (ps := ["value"]) fun _ _ _ _ _ _ us hl => match us, hl with | [_], _ => rfl
  have b6 := F6.binds (ps := ["one", "other"]) fun _ _ _ _ _ _ us hl => match us, hl with | [_, _], _ => rfl
  have b7 := F7.binds (ps := ["one", "other"]) fun _ _ _ _ _ _ us hl => match us, hl with | [_, _], _ => rfl
  have b8 := F8.binds (ps := ["one", "other"]) fun _ _ _ _ _ _ us hl => match us, hl with | [_, _], _ => rfl
  have b9 := F9.binds (ps := ["values"]) fun _ _ _ _ _ _ us hl => match us, hl with | [_], _ => rfl
  have b10 := F10.binds (ps := ["value"]) fun _ _ _ _ _ _ us hl => match us, hl with | [_], _ => rfl
  have b11 := F11.binds (ps := ["one", "other"]) fun _ _ _ _ _ _ us hl => match us, hl with | [_, _], _ => rfl
  have b12 := F12.binds (ps := ["values"]) fun _ _ _ _ _ _ us hl => match us, hl with | [_], _ => rfl
  have b13 := F13.binds (ps := ["_law_script", "_law_spot"]) fun _ _ _ _ _ _ us hl => match us, hl with | [_, _], _ => rfl
  have b14 := F14.binds (ps := ["_law_dice_here", "_law_most"]) fun _ _ _ _ _ _ us hl => match us, hl with | [_, _], _ => rfl
  have b15 := F15.binds (ps := ["_law_dice_here", "_law_items"]) fun _ _ _ _ _ _ us hl => match us, hl with | [_, _], _ => rfl
  have b16 := F16.binds (ps := ["_law_dice_here", "_law_items"]) fun _ _ _ _ _ _ us hl => match us, hl with | [_, _], _ => rfl
  have b17 := F17.binds (ps := ["_law_dice_here", "_law_deep"]) fun _ _ _ _ _ _ us hl => match us, hl with | [_, _], _ => rfl
  have b18 := F18.binds (ps := ["_law_dice_here", "_law_value"]) fun _ _ _ _ _ _ us hl => match us, hl with | [_, _], _ => rfl
  have b19 := F19.binds (ps := ["_law_value"]) fun _ _ _ _ _ _ us hl => match us, hl with | [_], _ => rfl
  have b20 := F20.binds (ps := ["_law_values"]) fun _ _ _ _ _ _ us hl => match us, hl with | [_], _ => rfl
  have b21 := F21.binds (ps := ["_law_dice_here"]) fun _ _ _ _ _ _ us hl => match us, hl with | [_], _ => rfl
  obtain ⟨fL, oc, od, kV, doc, pm, an, cd, ct, sl, aL, lL, cL, kL⟩ := d22
  have e := hfa.symm.trans (PySem.W.mg_of X G aL)
  cases e
  refine ⟨PySem.W.fnOf "law" "law" (defArgs sLaw) (defBody sLaw) (defScope sLaw) .none kV doc pm an cd ct, fun s v => .of_eq rfl, fun base _ _ => ?_⟩
  have C0 : Cal l.prog w K mg base 1 "is_integer" spInteger := ⟨f0, fd0, _, ok_integer F0 T, m0, k0, b0⟩
  have C1 : Cal l.prog w K mg base 1 "has_signs" spSigns := ⟨f1, fd1, _, ok_signs F1 T, m1, k1, b1⟩
  have C2 : Cal l.prog w K mg base 2 "is_string" spString := ⟨f2, fd2, _, ok_string F2 T C1, m2, k2, b2⟩
  have C3 : Cal l.prog w K mg base 3 "is_atom" (spAtom K) := ⟨f3, fd3, _, ok_atom F3 C0 C2, m3, k3, b3⟩
  have C4 : Cal l.prog w K mg base 4 "is_plain" (spPlain K) := ⟨f4, fd4, _, ok_plain F4 T C3, m4, k4, b4⟩
  have C5 : Cal l.prog w K mg base 1 "rank_of" (spRankOf K) := ⟨f5, fd5, _, ok_rank F5 T, m5, k5, b5⟩
  have C6 : Cal l.prog w K mg base 2 "compared_atoms" (spAtoms K) := ⟨f6, fd6, _, ok_atoms F6 C5, m6, k6, b6⟩
  have C7 : Cal l.prog w K mg base 3 "compared" (spCompared K) := ⟨f7, fd7, _, ok_compared F7 T C6, m7, k7, b7⟩
  have C8 : Cal l.prog w K mg base 4 "merged" (spMerged K) := ⟨f8, fd8, _, ok_merged F8 T C7, m8, k8, b8⟩
  have C9 : Cal l.prog w K mg base 5 "ordered_in" (spOrderedIn K) := ⟨f9, fd9, _, ok_ordered_in F9 T C8, m9, k9, b9⟩
  have C10 : Cal l.prog w K mg base 5 "require_plain" (spRequire K) := ⟨f10, fd10, _, ok_require F10 C4, m10, k10, b10⟩
  have C11 : Cal l.prog w K mg base 6 "is_less" (spLess K) := ⟨f11, fd11, _, ok_less F11 C10 C7, m11, k11, b11⟩
  have C12 : Cal l.prog w K mg base 6 "ordered" (spOrdered K) := ⟨f12, fd12, _, ok_ordered F12 T C4 C9, m12, k12, b12⟩
  have C13 : Cal l.prog w K mg base 1 "_law_dice" (spDice K) := ⟨f13, fd13, _, ok_dice F13 T, m13, k13, b13⟩
  have C14 : Cal l.prog w K mg base 1 "_law_roll" spRoll := ⟨f14, fd14, _, ok_roll F14 T, m14, k14, b14⟩
  have C15 : Cal l.prog w K mg base 2 "_law_pick" spPick := ⟨f15, fd15, _, ok_pick F15 T C14, m15, k15, b15⟩
  have C16 : Cal l.prog w K mg base 2 "_law_mixed" (spMixed K) := ⟨f16, fd16, _, ok_mixed F16 T C14, m16, k16, b16⟩
  have va := ok_va (P := l.prog) (w := w) (base := base) F17 T C14 C15 m17 k17 b17
  have Ca1 : Cal l.prog w K mg base 5 "_law_va_plain" (spVa K 1) := ⟨f17, fd17, _, va 1, m17, k17, b17⟩
  have Ca3 : Cal l.prog w K mg base 7 "_law_va_plain" (spVa K 3) := ⟨f17, fd17, _, va 3, m17, k17, b17⟩
  have C18 : Cal l.prog w K mg base 6 "_law_va_near" (spNear K) := ⟨f18, fd18, _, ok_near F18 T C14 C15 Ca1, m18, k18, b18⟩
  have C19 : Cal l.prog w K mg base 7 "_law_va_rank" (spRank K 6) := ⟨f19, fd19, _, ok_vr F19 T m19 k19 b19 6, m19, k19, b19⟩
  have C20 : Cal l.prog w K mg base 10 "_law_ordered" (spLOrd K) := ⟨f20, fd20, _, ok_lord F20 T C19, m20, k20, b20⟩
  have C21 : CalG l.prog w K mg base 11 "_law_right" spRight := ⟨f21, fd21, _, ok_right F21 T ⟨Ca3, C18, C19, C11, C12, C20, C16⟩, m21, k21, b21⟩
  exact ok_law (fun_mk (st := sLaw) lL cL kL) T C13 C21 C11 C12
/-- the goal that the head leaves -/
theorem walkG {l : PySem.W.OpenLaw} {n : Nat} {q : Program} {loose : List Str} {XP : (Str → Option Value) → Heap → Prop} {YP : World → Heap → Prop} {d : DefRec} {K : Params → PySem.W.Frag} (most : l.most = some n) (few : n ≤ sizeLine) (plain : d.params.defaults = [])
    (inK : ∀ (w : World) (h : Heap), YP w h → (K w.params).In h)
    (F : ∀ (w : World) (mg : Str → Option Value) (fa : Addr) (h : Heap), (K w.params).In h → h.Ns mainGlobals mg → XP mg h → mg d.name = some (.ref fa) →
      ∃ fd : FuncData, (∀ (s : Shared) (u : Value), BindsTo s fd ⟨[u], []⟩ [("_law_script", u)]) ∧ ∀ base : Heap, (K w.params).In base → base.Ns mainGlobals mg → FnG l.prog w (K w.params) mg base 12 fa fd ["_law_script"] (spLaw (K w.params))) :
    PySem.W.WalkO q loose XP YP l.row.toRowW d [] (fun f vs => PySem.call f vs) := by
  refine Att.attach_call most plain fun w s₀ s₁ mg mb fa o pm cd doc a vs ns G Y ho hd hcd name script nums count gens => ?_
  obtain ⟨fd, bind, walk⟩ := F w mg fa _ (inK w _ Y) G.T.g G.X name
  refine lawG (inK w _ Y) G.T.g G.T.b G.T.builtins G.T.nolimit gens script nums (Nat.le_trans count few) ⟨rfl, by decide, by decide⟩ walk bind fun H _ held => ?_
  exact ⟨a, ns, rfl, held, fun _ => rfl⟩
end K1

open PySem PySem.W PyProof.Rows in
set_option maxRecDepth 100000 in
set_option maxHeartbeats 0 in
theorem PySem.Challenge.cw_halvesmeet_k01_whole_order_of_plain_valu_holds : PySem.Challenge.rw_halvesmeet_k01_whole_order_of_plain_valu.Holds := by
  w_on; o_law; k_head; (case hw => w_witness2)
  k_fill
  refine K1.walkG (l := PySem.Challenge.rw_halvesmeet_k01_whole_order_of_plain_valu) rfl (by decide) rfl (fun w h Y => PySem.W.kIn_of Y) ?F
  case F =>
    intro w mg fa h KX G XX hmg
    refine' K1.all_mk KX G hmg (K1.great_of XX (List.Mem.head _)) (K1.signs_of XX (List.Mem.tail _ (List.Mem.head _)) ?sg) ?hn ?hm ?z0 ?z1 ?z2 ?z3 ?z4 ?z5 ?z6 ?z7 ?z8 ?z9 ?z10 ?z11 ?z12 ?z13 ?z14 ?d0 ?d1 ?d2 ?d3 ?d4 ?d5 ?d6 ?d7 ?d8 ?d9 ?d10 ?d11 ?d12 ?d13 ?d14 ?d15 ?d16 ?d17 ?d18 ?d19 ?d20 ?d21 ?d22
    (case sg => decide +kernel)
    (case hn => k_is)
    (case hm => k_is)
    (case z0 => k_is)
    (case z1 => k_is)
    (case z2 => k_is)
    (case z3 => k_is)
    (case z4 => k_is)
    (case z5 => k_is)
    (case z6 => k_is)
    (case z7 => k_is)
    (case z8 => k_is)
    (case z9 => k_is)
    (case z10 => k_is)
    (case z11 => k_is)
    (case z12 => k_is)
    (case z13 => k_is)
    (case z14 => k_is)
    (case d0 => (refine' K1.def_in ?a ?l ?c ?k); (case a => k_is); (case l => k_is); (case c => k_is); (case k => k_is))
    (case d1 => (refine' K1.def_in ?a ?l ?c ?k); (case a => k_is); (case l => k_is); (case c => k_is); (case k => k_is))
    (case d2 => (refine' K1.def_in ?a ?l ?c ?k); (case a => k_is); (case l => k_is); (case c => k_is); (case k => k_is))
    (case d3 => (refine' K1.def_in ?a ?l ?c ?k); (case a => k_is); (case l => k_is); (case c => k_is); (case k => k_is))
    (case d4 => (refine' K1.def_in ?a ?l ?c ?k); (case a => k_is); (case l => k_is); (case c => k_is); (case k => k_is))
    (case d5 => (refine' K1.def_in ?a ?l ?c ?k); (case a => k_is); (case l => k_is); (case c => k_is); (case k => k_is))
    (case d6 => (refine' K1.def_in ?a ?l ?c ?k); (case a => k_is); (case l => k_is); (case c => k_is); (case k => k_is))
    (case d7 => (refine' K1.def_in ?a ?l ?c ?k); (case a => k_is); (case l => k_is); (case c => k_is); (case k => k_is))
    (case d8 => (refine' K1.def_in ?a ?l ?c ?k); (case a => k_is); (case l => k_is); (case c => k_is); (case k => k_is))
    (case d9 => (refine' K1.def_in ?a ?l ?c ?k); (case a => k_is); (case l => k_is); (case c => k_is); (case k => k_is))
    (case d10 => (refine' K1.def_in ?a ?l ?c ?k); (case a => k_is); (case l => k_is); (case c => k_is); (case k => k_is))
    (case d11 => (refine' K1.def_in ?a ?l ?c ?k); (case a => k_is); (case l => k_is); (case c => k_is); (case k => k_is))
    (case d12 => (refine' K1.def_in ?a ?l ?c ?k); (case a => k_is); (case l => k_is); (case c => k_is); (case k => k_is))
    (case d13 => (refine' K1.def_in ?a ?l ?c ?k); (case a => k_is); (case l => k_is); (case c => k_is); (case k => k_is))
    (case d14 => (refine' K1.def_in ?a ?l ?c ?k); (case a => k_is); (case l => k_is); (case c => k_is); (case k => k_is))
    (case d15 => (refine' K1.def_in ?a ?l ?c ?k); (case a => k_is); (case l => k_is); (case c => k_is); (case k => k_is))
    (case d16 => (refine' K1.def_in ?a ?l ?c ?k); (case a => k_is); (case l => k_is); (case c => k_is); (case k => k_is))
    (case d17 => (refine' K1.def_in ?a ?l ?c ?k); (case a => k_is); (case l => k_is); (case c => k_is); (case k => k_is))
    (case d18 => (refine' K1.def_in ?a ?l ?c ?k); (case a => k_is); (case l => k_is); (case c => k_is); (case k => k_is))
    (case d19 => (refine' K1.def_in ?a ?l ?c ?k); (case a => k_is); (case l => k_is); (case c => k_is); (case k => k_is))
    (case d20 => (refine' K1.def_in ?a ?l ?c ?k); (case a => k_is); (case l => k_is); (case c => k_is); (case k => k_is))
    (case d21 => (refine' K1.def_in ?a ?l ?c ?k); (case a => k_is); (case l => k_is); (case c => k_is); (case k => k_is))
    (case d22 => (refine' K1.def_in ?a ?l ?c ?k); (case a => k_is); (case l => k_is); (case c => k_is); (case k => k_is))
#print axioms PySem.Challenge.cw_halvesmeet_k01_whole_order_of_plain_valu_holds
